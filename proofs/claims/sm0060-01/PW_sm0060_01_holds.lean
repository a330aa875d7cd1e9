import PyProof.Rows.All
import Wide.All
import OpenK.AllK
import Wide.FinOn
import PySem.Challenge.RW_sm0060_01
open PySem PySem.W PyProof.Rows
set_option Elab.async false
set_option maxRecDepth 100000
set_option maxHeartbeats 0
set_option linter.all false
namespace Mine
-- what is said below is tried ahead of the library's lines
local macro_rules | `(tactic| walk_at $s:str) => `(tactic| k_extra $s)


section
open PySem PySem.W PyProof.Rows
section
local macro_rules | `(tactic| refine $_) => `(tactic| assumption)
theorem hd0 (h : PySem.Challenge.rw_sm0060_01.row.Holds) : PySem.Challenge.rw_sm0060_01.row.Holds := by
  k_head
end
abbrev hdLoose : List Str := [Str.ofString "NEVER", Str.ofString "HeapObject"]
abbrev hdLv : List (Str × WData) := [(Str.ofString "NEVER", WData.int 1000000000000000000)]
noncomputable def hdAs : List Addr := [2, 3, 15, 17, 18, 20, 21, 22, 24, 25, 27, 28, 36, 38, 39, 41, 42, 43, 45, 46, 48, 49, 50, 52, 53, 55, 56, 57, 59, 60, 62, 63, 64, 66, 67, 69, 70, 71, 73, 74, 76, 77, 78, 80, 81, 83, 84, 85, 87, 88, 90, 91, 92, 94, 95, 97, 98, 99, 101, 102, 104, 105, 106, 108, 109, 111, 112, 113, 115, 116, 118, 119, 120, 122, 123, 125, 126, 127, 129, 130, 132, 133, 134, 135, 136, 137, 138, 141, 143, 144, 146, 147, 148, 150, 151, 153, 154, 155, 157, 158, 160, 161, 162, 164, 165, 167, 168, 176, 178, 179, 181, 182, 183, 185, 186, 188, 189, 190, 192, 193, 195, 196, 197, 199, 200, 202, 203, 204, 206, 207, 209, 210, 211, 213, 214, 216, 217, 218, 220, 221, 223, 224, 225, 227, 228, 230, 231, 232, 234, 235, 237, 238, 239, 241, 242, 244, 245, 246, 248, 249, 251, 252, 253, 255, 256, 258, 259, 260, 262, 263, 265, 266, 267, 269, 270, 272, 273, 274, 276, 277, 279, 280, 281, 283, 284, 286, 287, 288, 290, 291, 293, 294, 295, 297, 298, 300, 301, 302, 304, 305, 307, 308, 309, 311, 312, 314, 315, 316, 318, 319, 321, 322, 323, 325, 326, 328, 329, 330, 332, 333, 335, 336, 337, 339, 340, 342, 343, 344, 345, 346, 347, 348, 358, 360, 361, 363, 364, 365, 366, 367, 368, 369, 372, 374, 375, 377, 378, 379, 381, 382, 384, 385, 386, 388, 389, 391, 392, 393, 396, 397, 398, 401, 402, 403, 406, 407, 408, 410, 411, 413, 414, 415, 417, 418, 420, 421, 422, 425, 426, 427, 429, 430, 432, 433]
theorem hdE : ∀ P, hdAs = (hd0.heap_1 P).map (·.1) := fun _ => by kernel_rfl
theorem said : PySem.Challenge.rw_sm0060_01.wellSaid = true := by kernel_rfl
theorem wit : PySem.Challenge.rw_sm0060_01.row.toRowW.promised := by w_witness2
theorem left.tw2222292666822968230 : True := trivial
theorem left.tw1903866087469309809 : True := trivial
theorem left.tw7013063077515339931 : True := trivial
theorem left.tw12365785939234459218 : True := trivial
theorem left.tw17176980426824361555 : True := trivial
theorem left.tw1104217542601720385 : True := trivial
theorem left.tw9337055352539938083 : True := trivial
theorem left.tw1080720160205336499 : True := trivial
theorem left.tw14630949253130088591 : True := trivial
theorem left.tw12865533992749814807 : True := trivial
theorem left.tw9825710190252272276 : True := trivial
theorem left.tw12975132476571534321 : True := trivial
theorem left.tw18020613342968250873 : True := trivial
theorem left.tw16784107809090861541 : True := trivial
theorem left.tw9058099311223631072 : True := trivial
theorem left.tw17761110009018887646 : True := trivial
theorem left.tw14558135424462192799 : True := trivial
theorem left.tw14327370849864988696 : True := trivial
theorem left.tw8829476603921016007 : True := trivial
theorem left.tw17945303661827348250 : True := trivial
theorem left.tw5243144501878294380 : True := trivial
theorem left.tw16069356975837495118 : True := trivial
theorem left.tw11692138674234060783 : True := trivial
theorem left.tw257731287307225586 : True := trivial
theorem left.tw600397798997955378 : True := trivial
theorem left.tw8570696682419980547 : True := trivial
theorem left.tw16478796857054019708 : True := trivial
theorem left.tw17210002179529311021 : True := trivial
theorem left.tw16980493782413815946 : True := trivial
theorem left.tw7746548596025678008 : True := trivial
theorem left.tw7393897359131223664 : True := trivial
theorem left.tw6468210441948735047 : True := trivial
theorem left.tw1508320659539494920 : True := trivial
theorem left.tw1210477050624216031 : True := trivial
theorem left.tw18311324124150051773 : True := trivial
theorem left.tw13917343715190758281 : True := trivial
theorem left.tw13430007999514716315 : True := trivial
theorem left.tw1988294207759718101 : True := trivial
theorem left.tw1451710973134968933 : True := trivial
theorem left.tw10087329720646860509 : True := trivial
theorem left.tw6181344930624877610 : True := trivial
theorem left.tw13886692527419010710 : True := trivial
theorem left.tw15491290966592441326 : True := trivial
theorem left.tw10187066271848162098 : True := trivial
theorem left.tw12161698191574608743 : True := trivial
theorem left.tw11397742301676134555 : True := trivial
theorem left.tw5605696582311864651 : True := trivial
theorem left.tw15142531265973088814 : True := trivial
theorem left.tw1454908699005844401 : True := trivial
theorem left.tw9279506062988143674 : True := trivial
theorem left.tw11099424026905612073 : True := trivial
theorem left.tw5325378501857689255 : True := trivial
theorem left.tw13238140433448828382 : True := trivial
theorem left.tw11742288132445340615 : True := trivial
theorem left.tw11688981301955081313 : True := trivial
theorem left.tw3269549622936974936 : True := trivial
theorem left.tw14416966632179464223 : True := trivial
theorem left.tw9014414747297604622 : True := trivial
theorem left.tw9241849893194190339 : True := trivial
theorem left.tw12817532065343064706 : True := trivial
theorem left.tw16016862433306369808 : True := trivial
theorem left.tw7204051391240069609 : True := trivial
theorem left.tw14146912827222531016 : True := trivial
theorem left.tw15092336917629885173 : True := trivial
theorem left.tw13252411263934785949 : True := trivial
theorem left.tw1066925079118519654 : True := trivial
theorem left.tw16138783781342146796 : True := trivial
theorem left.tw6172979098770301822 : True := trivial
theorem left.tw5975778768647462407 : True := trivial
theorem left.tw9593448174364633727 : True := trivial
theorem left.tw11674698038307207457 : True := trivial
theorem left.tw8224231849783353159 : True := trivial
theorem left.tw18336886721016090412 : True := trivial
theorem left.tw16274329534696968090 : True := trivial
theorem left.tw4660476320827963798 : True := trivial
theorem left.tw9477364778139411913 : True := trivial
theorem left.tw9176408718176534523 : True := trivial
theorem left.tw13413135523098589788 : True := trivial
theorem left.tw13059306584284192189 : True := trivial
theorem left.tw15692628875698285579 : True := trivial
theorem left.tw17036744071539419096 : True := trivial
theorem left.tw7001932671804858435 : True := trivial
theorem left.tw10313896693581809644 : True := trivial
theorem left.tw18269732300434641140 : True := trivial
theorem left.tw14007281954563547404 : True := trivial
theorem left.tw1117911673876799980 : True := trivial
theorem left.tw5140497235983508331 : True := trivial
theorem left.tw4811882328835170538 : True := trivial
theorem left.tw10372876405645812797 : True := trivial
theorem left.tw17347385210630387465 : True := trivial
theorem left.tw10209169731344440265 : True := trivial
theorem left.tw4884106663507342984 : True := trivial
theorem left.tw1254135645399619788 : True := trivial
theorem left.tw3031371785057515284 : True := trivial
theorem left.tw11741918580612730762 : True := trivial
theorem left.tw5458372099047346347 : True := trivial
theorem left.tw6344032613518549982 : True := trivial
theorem left.tw8806894995864043476 : True := trivial
theorem left.tw8525144318441121549 : True := trivial
theorem left.tw11021664718710879662 : True := trivial
theorem left.tw13924660416797587419 : True := trivial
theorem left.tw4793887082149947597 : True := trivial
theorem left.tw16491738809602619345 : True := trivial
theorem left.tw17918731595228751264 : True := trivial
theorem left.tw12440826426070541043 : True := trivial
theorem left.tw1464559281597093305 : True := trivial
theorem left.tw8517501710897700842 : True := trivial
theorem left.tw8803520099591800177 : True := trivial
theorem left.tw6786967612168800781 : True := trivial
theorem left.tw4281940085092572119 : True := trivial
theorem left.tw9773181907768743272 : True := trivial
theorem left.tw10883313555387499708 : True := trivial
theorem left.tw11194817466689469313 : True := trivial
theorem left.tw6338702256602230877 : True := trivial
theorem left.tw621844286139386133 : True := trivial
theorem left.tw6060282504093114219 : True := trivial
theorem left.tw7807978389932575557 : True := trivial
theorem left.tw9974907699682404144 : True := trivial
theorem left.tw11304041720320558971 : True := trivial
theorem left.tw4569371261588614350 : True := trivial
theorem left.tw2550101192098192838 : True := trivial
theorem left.tw13621995913637967754 : True := trivial
theorem left.tw9179613791492743470 : True := trivial
theorem left.tw1893376023881890633 : True := trivial
theorem left.tw13073762952648995315 : True := trivial
theorem left.tw16617468379537923093 : True := trivial
theorem left.tw9080412223593681421 : True := trivial
theorem left.tw5982150389648779276 : True := trivial
theorem left.tw5205432766805872036 : True := trivial
theorem left.tw5898860310758411966 : True := trivial
theorem left.tw14630117582143699747 : True := trivial
theorem left.tw14262933350132513526 : True := trivial
theorem left.tw7809765691947034327 : True := trivial
theorem left.tw13794604998122610100 : True := trivial
theorem left.tw705614464706871028 : True := trivial
theorem left.tw14871888048494137306 : True := trivial
theorem left.tw11648813517919540909 : True := trivial
theorem left.tw4601418690812010711 : True := trivial
theorem left.tw9859870083146981791 : True := trivial
theorem left.tw1731887594995066408 : True := trivial
theorem left.tw12369461380471000539 : True := trivial
theorem left.tw4177535187734046612 : True := trivial
theorem left.tw12438852744482100789 : True := trivial
theorem left.tw15153824073404313638 : True := trivial
theorem left.tw729597280060366536 : True := trivial
theorem left.tw9937757902560833323 : True := trivial
theorem left.tw123111215161874780 : True := trivial
theorem left.tw12066646302777773855 : True := trivial
theorem left.tw11661825415886592652 : True := trivial
theorem left.tw18193594736174775243 : True := trivial
theorem left.tw15500958973802345580 : True := trivial
theorem left.tw18107603315756180064 : True := trivial
theorem left.tw14196573756848182512 : True := trivial
theorem left.tw1304717925136002927 : True := trivial
theorem left.tw8073908886150868386 : True := trivial
theorem left.tw6430238957306911940 : True := trivial
theorem left.tw17711621395969873754 : True := trivial
theorem left.tw12724409782858219842 : True := trivial
theorem left.tw5971216192702116674 : True := trivial
theorem left.tw6329537301614415141 : True := trivial
theorem left.tw5735630570236950586 : True := trivial
theorem left.tw1805036438167378005 : True := trivial
theorem left.tw8217742398764144758 : True := trivial
theorem left.tw7964662051644605411 : True := trivial
theorem left.tw1072432864016260133 : True := trivial
theorem left.tw197870795437958485 : True := trivial
theorem left.tw16743428827577892753 : True := trivial
theorem left.tw12356721104814363197 : True := trivial
theorem left.tw10901095356670634775 : True := trivial
theorem left.tw1228790166644337560 : True := trivial
theorem left.tw6484015392448588396 : True := trivial
theorem left.tw17843237756364363044 : True := trivial
theorem left.tw3789901954800668339 : True := trivial
theorem left.tw15966324404689925951 : True := trivial
theorem left.tw424871090245785700 : True := trivial
theorem left.tw8424847000148699239 : True := trivial
theorem left.tw8455034722426212494 : True := trivial
theorem left.tw13911208011540716879 : True := trivial
theorem left.tw13135663755077032337 : True := trivial
theorem left.tw18282180785652238172 : True := trivial
theorem left.tw9377490910188962066 : True := trivial
theorem left.tw14418934472424868120 : True := trivial
theorem left.tw14498891537802568778 : True := trivial
theorem left.tw6316535871324987009 : True := trivial
theorem left.tw9368272003886206938 : True := trivial
theorem left.tw8812064511318443822 : True := trivial
theorem left.tw9786312453151405239 : True := trivial
theorem left.tw15387189751188481776 : True := trivial
theorem left.tw10567704653366348841 : True := trivial
theorem left.tw465418630487083611 : True := trivial
theorem left.tw5311710907527013995 : True := trivial
theorem left.tw12931619525689794642 : True := trivial
theorem left.tw7761515536421617958 : True := trivial
theorem left.tw2626298145180874205 : True := trivial
theorem left.tw6127282377307187143 : True := trivial
theorem left.tw13588670805678591013 : True := trivial
theorem left.tw4229963709926515320 : True := trivial
theorem left.tw12993552966330328315 : True := trivial
theorem left.tw5128718971058437265 : True := trivial
theorem left.tw18158236158231261745 : True := trivial
theorem left.tw2316748576605290463 : True := trivial
theorem left.tw12490703189174989606 : True := trivial
theorem left.tw6253372995550657977 : True := trivial
theorem left.tw713507697797212648 : True := trivial
theorem left.tw14841474785589213233 : True := trivial
theorem left.tw12015992243965489243 : True := trivial
theorem left.tw625895409160344954 : True := trivial
theorem left.tw9539291337092223762 : True := trivial
theorem left.tw15309015439086172897 : True := trivial
theorem left.tw3207305721191766147 : True := trivial
theorem left.tw4632344513471523179 : True := trivial
theorem left.tw8311542857614695682 : True := trivial
theorem left.tw11388776785935725061 : True := trivial
theorem left.tw12297700991395419406 : True := trivial
theorem left.tw3301577345469062982 : True := trivial
theorem left.tw12782903245148790160 : True := trivial
theorem left.tw10868912989937390445 : True := trivial
theorem left.tw1187454000392326399 : True := trivial
theorem left.tw3884016433495722566 : True := trivial
theorem left.tw8615720850650313233 : True := trivial
theorem left.tw10560650421270493612 : True := trivial
theorem left.tw5328464313782485826 : True := trivial
theorem left.tw5141494762143068309 : True := trivial
theorem left.tw175867871583210349 : True := trivial
theorem left.tw15798144084868576005 : True := trivial
theorem left.tw12924136601568335405 : True := trivial
theorem left.tw12042187068062785402 : True := trivial
theorem left.tw9785781270522831250 : True := trivial
theorem left.tw5471574347014984010 : True := trivial
theorem left.tw522514582983336967 : True := trivial
theorem left.tw10331684208139663804 : True := trivial
theorem left.tw7856722289336767411 : True := trivial
theorem left.tw9347541995480993860 : True := trivial
theorem left.tw6379534398832791831 : True := trivial
theorem left.tw7734492998386875766 : True := trivial
theorem left.tw13900878795584300207 : True := trivial
theorem left.tw11475916119603387521 : True := trivial
theorem left.tw3191848008515570394 : True := trivial
theorem left.tw2125306935990770624 : True := trivial
theorem left.tw7792888156242153162 : True := trivial
theorem left.tw1925953502979190743 : True := trivial
theorem left.tw16885379053910604414 : True := trivial
theorem left.tw7986412331376227898 : True := trivial
theorem left.tw15248823433397124647 : True := trivial
theorem left.tw16957782904915359073 : True := trivial
theorem left.tw3651668166143141161 : True := trivial
theorem left.tw8103928304910830274 : True := trivial
theorem left.tw6671322027841610769 : True := trivial
theorem left.tw7234021835422384778 : True := trivial
theorem left.tw2829597849042729800 : True := trivial
theorem left.tw17014002307350867007 : True := trivial
theorem left.tw1297496008851490162 : True := trivial
theorem left.tw3693013279911963586 : True := trivial
theorem left.tw3324000579429069637 : True := trivial
theorem left.tw2946437789193543864 : True := trivial
theorem left.tw13364247555786964156 : True := trivial
theorem left.tw13226833206374660533 : True := trivial
theorem left.tw13986459623980930412 : True := trivial
theorem left.tw18413136178168696289 : True := trivial
theorem left.tw3782920139149080822 : True := trivial
theorem left.tw7242205262554270959 : True := trivial
theorem left.tw16557656335607025129 : True := trivial
theorem left.tw7338825798504071639 : True := trivial
theorem left.tw13902028575093278256 : True := trivial
theorem left.tw4523142755951121244 : True := trivial
theorem left.tw17697796369020777600 : True := trivial
theorem left.tw11751496353377407122 : True := trivial
theorem left.tw260505202533482791 : True := trivial
theorem left.tw16626968708875040768 : True := trivial
theorem left.tw14228367619033580463 : True := trivial
theorem left.tw3775892751432842479 : True := trivial
theorem left.tw5082372510931963151 : True := trivial
theorem left.tw12959562207316844193 : True := trivial
theorem left.tw10033850479068168623 : True := trivial
theorem left.tw18288525139608627720 : True := trivial
theorem left.tw13699566045552029752 : True := trivial
theorem left.tw1733358190782052672 : True := trivial
theorem left.tw8070862196266509549 : True := trivial
theorem left.tw4996661729215439937 : True := trivial
theorem left.tw7383145387226023249 : True := trivial
theorem left.tw142936556190945370 : True := trivial
theorem left.tw6328516239794352028 : True := trivial
theorem left.tw16556937037787433617 : True := trivial
theorem left.tw6442356832555567383 : True := trivial
theorem left.tw7556789358984651672 : True := trivial
theorem left.tw18277220259959596465 : True := trivial
theorem left.tw11310005001180010205 : True := trivial
theorem left.tw14134255269658797662 : True := trivial
theorem left.tw17863852435618129309 : True := trivial
theorem left.tw9086540958804509621 : True := trivial
theorem left.tw14936824573435359795 : True := trivial
theorem left.tw10870860360433079504 : True := trivial
theorem left.tw12950348844343933060 : True := trivial
theorem left.tw15552159793137356616 : True := trivial
theorem left.tw6891154057977917732 : True := trivial
theorem left.tw15630633530297786521 : True := trivial
theorem left.tw4730750878445362299 : True := trivial
theorem left.tw13772938984267459389 : True := trivial
theorem left.tw12051849861802018882 : True := trivial
theorem left.tw66489006102515110 : True := trivial
theorem left.tw5420294964283338155 : True := trivial
theorem left.tw12125402850506401180 : True := trivial
theorem left.tw3150591360373913280 : True := trivial
theorem left.tw12315566853318643478 : True := trivial
theorem left.tw13409020890884816671 : True := trivial
theorem left.tw8957087978856992030 : True := trivial
theorem left.tw15099661793649438041 : True := trivial
theorem left.tw7867627517184356080 : True := trivial
theorem left.tw2201375081795782523 : True := trivial
theorem left.tw13342650174906684284 : True := trivial
theorem left.tw14768252079023202053 : True := trivial
theorem left.tw5562428078156939019 : True := trivial
theorem left.tw1849890066055018212 : True := trivial
theorem left.tw10258633807918476665 : True := trivial
theorem left.tw7236082114901107231 : True := trivial
theorem left.tw14452968524310018771 : True := trivial
theorem left.tw10182510533951622544 : True := trivial
theorem left.tw15692723794750608050 : True := trivial
theorem left.tw6079531504047495687 : True := trivial
theorem left.tw6201766966481036055 : True := trivial
theorem left.tw9693087805405979517 : True := trivial
theorem left.tw13040489704264440535 : True := trivial
theorem left.tw4350884512671353810 : True := trivial
theorem left.tw5730037189062602790 : True := trivial
theorem left.tw6860854114324739553 : True := trivial
theorem left.tw2557951806838780962 : True := trivial
theorem left.tw3060770867945613701 : True := trivial
theorem left.tw4347137292517815337 : True := trivial
theorem left.tw4454000134082066605 : True := trivial
theorem left.tw18335348270226892963 : True := trivial
theorem left.tw17305294282995476296 : True := trivial
theorem left.tw14823852809733117148 : True := trivial
theorem left.tw17343161809624973686 : True := trivial
theorem left.tw14730715848814321948 : True := trivial
theorem left.tw10025962566823239327 : True := trivial
theorem left.tw13262983923050879016 : True := trivial
theorem left.tw6141958466056436938 : True := trivial
theorem left.tw15415397639968721783 : True := trivial
theorem left.tw2595306304908868969 : True := trivial
theorem left.tw6344129971342327896 : True := trivial
theorem left.tw4722638684531431363 : True := trivial
theorem left.tw5345740813200158519 : True := trivial
theorem left.tw2737744863713738095 : True := trivial
theorem left.tw3691825728171306889 : True := trivial
theorem left.tw5979233295252247645 : True := trivial
theorem left.tw13115594765294418964 : True := trivial
theorem left.tw2341726862095274966 : True := trivial
theorem left.tw13783982314861833715 : True := trivial
theorem left.tw7017700849549433352 : True := trivial
section
local macro_rules | `(tactic| refine $_) => `(tactic| assumption)
set_option Elab.async true in
theorem left : LeftO PySem.Challenge.rw_sm0060_01.row.prog hd0.view_1 hdLoose (fun s => xlAt hd0.view_1 hdLv s && recOk (RowW.records PySem.Challenge.rw_sm0060_01.row.toRowW) s) (Hook.obs (kmHook hd0.heap_1 hdAs hdE [428])) (Hook.val (kmHook hd0.heap_1 hdAs hdE [428])) 5320 := by
  refine' (fun (_ : PySem.Challenge.rw_sm0060_01.row.Holds → PySem.Challenge.rw_sm0060_01.row.Holds) (y : LeftO PySem.Challenge.rw_sm0060_01.row.prog hd0.view_1 hdLoose (fun s => xlAt hd0.view_1 hdLv s && recOk (RowW.records PySem.Challenge.rw_sm0060_01.row.toRowW) s) (Hook.obs (kmHook hd0.heap_1 hdAs hdE [428])) (Hook.val (kmHook hd0.heap_1 hdAs hdE [428])) 5320) => y) (fun h => ?a) ?hl
  o_head (kmHook hd0.heap_1 hdAs hdE [428])
end
theorem hd {d : DefRec} {kwd : List (Str × PySem.Expr)} (h1 : defOf hd0.view_1 PySem.Challenge.rw_sm0060_01.row.name = some (d, kwd)) (h2 : PySem.Challenge.rw_sm0060_01.row.prog.theDef PySem.Challenge.rw_sm0060_01.row.name = some (d.params, d.body, d.scope))
    (h3 : kwWritten? d.params.kwonlyargs d.params.kw_defaults = some kwd) (hc : WalkO hd0.view_1 hdLoose (XL hd0.view_1 hdLv) (Hook.says (kmHook hd0.heap_1 hdAs hdE [428])) PySem.Challenge.rw_sm0060_01.row.toRowW d kwd fun f vs => PySem.call f vs) : PySem.Challenge.rw_sm0060_01.Holds :=
  holds_law said fun sd => holds_open left (Hook.of (kmHook hd0.heap_1 hdAs hdE [428])) (Hook.keeps (kmHook hd0.heap_1 hdAs hdE [428])) (fun s e => xl_of s (Bool.and_eq_true_iff.mp e).1) XL.keeps h1 h2 h3 (fun s e => recFacts_of (Bool.and_eq_true_iff.mp e).2) rfl sd (by decide +kernel) ⟨rfl, rfl, rfl, rfl, rfl, by decide +kernel⟩ wit hc
end
theorem top_off : True := by
  w_top off
  trivial

section
open PySem PySem.W PySem.Calls PyProof.Rows
theorem md_list_keys : typeLookup (.type "list") "keys" = pure none := by rw [typeLookup_type, builtinLookup_eq_fast]; kernel_rfl
section
variable {prog : Program} {w : World} {A : Around} {E : Value → Shared → Prop} {s : Shared}
/-- a list has no «keys» -/
theorem md_getAttr {a : Addr} {o : Obj} {xs : Array Value} {k : Nat} {Q : Option Value → Shared → Prop}
    (hx : s.heap.get? a = some o) (hc : o.cls = .type "list") (hdat : o.data = .seq xs k) (hd : o.dict = none) (hA : A.handled = none)
    (h : ∀ h' tk, (∀ b p, s.heap.get? b = some p → h'.get? b = some p) → Q none { s with heap := h', toks := tk }) :
    wpAny (model prog w) A (getAttr? (.ref a) "keys") Q E s := by
  obtain ⟨c, dct, dat, sl⟩ := o
  simp only at hc hdat hd
  subst hc hdat hd
  obtain ⟨hp, g, d, tk, os⟩ := s
  have hT : ∀ tk', (⟨hp, g, d, tk', os⟩ : Shared).TypeIs (.ref a) "list" := fun _ => ⟨_, hx, rfl⟩
  have f1 := sub_AttributeError
  have f3 := PySem.F.slot_list_getattribute.lookup
  have f4 := PySem.F.slot_list_getattribute.bind (.ref a)
  have f5 := am_list_getattr_none
  have hname : (["__module__", "__name__", "__qualname__", "__doc__", "__annotations__"] : List Str).contains (Str.ofString "keys") = false := by decide +kernel
  unfold getAttr? getAttrBy? getAttrBy
  repeat (any_goals (first | assumption | exact hT _ | ((with_reducible show wpAny _ _ (call (Value.builtin "list.__getattribute__") _ _) _ _ _); refine call_meets PySem.F.slot_list_getattribute (hT _) am_entry_list_getattribute (PySem.F.args_list_getattribute_2 _ _) (meets_getattribute_miss_list a xs k sl "keys" _ md_list_keys hname (by decide +kernel)) ⟨hx, hA, fun h' tk' e hx' => ?_⟩) | wp_step))
  obtain ⟨t', u', he⟩ := hx'.there
  show wpAny _ _ (getattributeRaised _ _ _ _ _ _ _) _ _ _
  unfold getattributeRaised
  repeat (any_goals (first | assumption | wp_step))
  exact h _ _ hx'.keeps
end
theorem md_entry : entryFor table "dict.update.loop" = some Builtin.«dict.update.loop» := entryFor_of_fast (by kernel_rfl)
theorem md_plain : plainId "dict.update.loop" = true := by decide +kernel
section
variable {prog : Program} {w : World} {K : Type} [DecidableEq K] {knd : KeyKind prog w K} {A : Around} {E : Value → Shared → Prop} {s : Shared} {kvs : List (K × Value)} {vs : Array Value}
/-- a pair, as it lies -/
noncomputable def PairAt {prog : Program} {w : World} {K : Type} [DecidableEq K] (knd : KeyKind prog w K) (h : Heap) (v : Value) (p : K × Value) : Prop :=
  ∃ T key o n, v = .ref T ∧ h.get? T = some o ∧ o.cls = .type "tuple" ∧ o.data = .seq #[key, p.2] n ∧ knd.is p.1 key = true
theorem stored_take {kvs : List (K × Value)} (hn : (kvs.map (·.1)).Nodup) {i : Nat} {k : K} {x : Value} (h : kvs[i]? = some (k, x)) : stored (kvs.take i) k x = kvs.take (i + 1) := by
  have e : kvs.take (i + 1) = kvs.take i ++ [(k, x)] := by rw [List.take_add_one, h]; rfl
  rw [e, stored, if_neg]
  rw [List.any_eq_true]
  rintro ⟨y, hy, he⟩
  have he := of_decide_eq_true he
  have hsub : (kvs.take (i + 1)).map (·.1) <+: kvs.map (·.1) := (List.take_prefix (i + 1) kvs).map _
  have hn' : ((kvs.take (i + 1)).map (·.1)).Nodup := hn.sublist hsub.sublist
  rw [e, List.map_append, List.nodup_append] at hn'
  exact hn'.2.2 y.1 (List.mem_map.mpr ⟨y, hy, rfl⟩) k (by simp) he
theorem md_loop {h₀ : Heap} {I d ax : Addr} {res : Value} {R : Result → Shared → Prop} (hh : A.handled = none) (hax : ax ≠ I) (hId : I ≠ d) (had : ax ≠ d) (hsz : vs.size ≤ sizeLine) (hlen : kvs.length = vs.size) (hnd : (kvs.map (·.1)).Nodup)
    (items : ∀ (i : Nat) (v : Value), vs[i]? = some v → ∃ p, kvs[i]? = some p ∧ PairAt knd h₀ v p) (hI₀ : h₀.get? I = none) (hd₀ : h₀.get? d = none) :
    ∀ (k i : Nat) (ix : Int) (s : Shared), vs.size - i = k → i ≤ vs.size → s.heap.IsListIter I ax i → s.heap.IsList ax vs → (∀ b o, h₀.get? b = some o → s.heap.get? b = some o) → s.heap.DictOf knd d (kvs.take i) →
    (∀ h' tk, (∀ b o, h₀.get? b = some o → h'.get? b = some o) → h'.DictOf knd d kvs → R (.ok (.ret res)) { s with heap := h', toks := tk }) →
    codeAny (model prog w) A (.builtin "dict.update.loop" ⟨[.ref d, .ref I, rawInt ix, res], []⟩) R s := by
  have W : Walks prog w A.in1 I [I, ax] [I] vs.size _ _ := Walks.list (prog := prog) (w := w) (A := A.in1) hh I ax hax vs
  have notI : ∀ b o, h₀.get? b = some o → b ≠ I := fun b o e q => by rw [q, hI₀] at e; cases e
  have notd : ∀ b o, h₀.get? b = some o → b ≠ d := fun b o e q => by rw [q, hd₀] at e; cases e
  intro k
  induction k with
  | zero =>
    intro i ix s hk hi hit hl hkeep hd hR
    have hin : i = vs.size := by (first | lia | omega)
    subst hin
    refine codeAny_builtin md_entry ?_
    rw [Around.under_plainId md_plain _]
    show wpAny _ A.in1 (pyNext (.ref I) >>= _) _ _ s
    refine wpAny_bind (W.done s _ _ ⟨hit, hl⟩ fun h' tk hk' => ?_)
    show wpAny _ _ (Builtin.Dict.addKeywords d [] >>= fun _ => ret res) _ _ _
    refine wpAny_bind (wpAny_pure (wpAny_pure ?_))
    refine hR h' tk (fun b o e => hk' b o (by simpa using notI b o e) (hkeep b o e)) ?_
    have e : kvs.take vs.size = kvs := List.take_of_length_le (by (first | lia | omega))
    rw [e] at hd
    obtain ⟨o, es, ep, ho, r⟩ := hd
    exact ⟨o, es, ep, hk' _ _ (by simpa using Ne.symm hId) ho, r⟩
  | succ k ih =>
    intro i ix s hk hi hit hl hkeep hd hR
    have hlt : i < vs.size := by (first | lia | omega)
    refine codeAny_builtin md_entry ?_
    rw [Around.under_plainId md_plain _]
    show wpAny _ A.in1 (pyNext (.ref I) >>= _) _ _ s
    refine wpAny_bind (W.item i s _ _ hlt ⟨hit, hl⟩ fun v h' tk hP st' hk' => ?_)
    obtain ⟨⟨kk, x⟩, hkv, T, key, o, n, rfl, hT, hc, hdat, hkey⟩ := items i v hP
    have hT' : h'.get? T = some o := hk' _ _ (by simpa using notI _ _ hT) (hkeep _ _ hT)
    have hd' : h'.DictOf knd d (kvs.take i) := by
      obtain ⟨o, es, ep, ho, r⟩ := hd
      exact ⟨o, es, ep, hk' _ _ (by simpa using Ne.symm hId) ho, r⟩
    dsimp only
    refine wpAny_bind (wpAny_holding (wpAny_bind ?_))
    refine wpAny_tryCatch ?_
    unfold Builtin.Dict.pairItems
    refine wpAny_bind (wpAny_typeOf (T := "tuple") ⟨o, hT', hc⟩ ?_)
    rw [if_pos (by decide)]
    refine wpAny_bind (wpAny_seqItems hT' hdat (wpAny_pure ?_))
    show wpAny _ _ (holding [key, x] (dictSet d key x)) _ _ _
    refine wpAny_holding (wpAny_dictSet_pairs hkey hd' (fun h'' hd'' hs'' => ?_) (by rw [List.length_take]; (first | lia | omega)))
    rw [stored_take hnd hkv] at hd''
    refine wpAny_pure ⟨plainId_quiet md_plain _, ih (i + 1) _ _ (by (first | lia | omega)) hlt (st'.1.at fun o e => hs''.extBut _ _ hId e) (st'.2.at fun o e => hs''.extBut _ _ had e) (fun b o e => hs''.extBut _ _ (notd b o e) (hk' _ _ (by simpa using notI b o e) (hkeep b o e))) hd'' ?_⟩
    intro h₃ tk₃ hk₃ hd₃
    exact hR h₃ tk₃ hk₃ hd₃
/-- «dict(a list of pairs)» -/
theorem md_call {l : Addr} {Q : Value → Shared → Prop} (hh : A.handled = none) (hl : s.heap.IsList l vs) (hnodict : ∀ o, s.heap.get? l = some o → o.dict = none) (hsz : vs.size ≤ sizeLine) (hlen : kvs.length = vs.size) (hnd : (kvs.map (·.1)).Nodup)
    (items : ∀ (i : Nat) (v : Value), vs[i]? = some v → ∃ p, kvs[i]? = some p ∧ PairAt knd s.heap v p)
    (h : ∀ h' tk, (∀ b o, s.heap.get? b = some o → h'.get? b = some o) → h'.DictOf knd s.heap.objs.size kvs → Q (.ref s.heap.objs.size) { s with heap := h', toks := tk }) :
    wpAny (model prog w) A (call (.type "dict") [.ref l]) Q E s := by
  refine callType_codes (Q₁ := fun obj s₁ => obj = .ref s.heap.objs.size ∧ s₁ = { s with heap := s.heap.push { cls := .type "dict", data := .dict #[] } }) PySem.F.kt_called_dict (PySem.F.kt_typeCall_dict_1 _) PySem.F.entry_dict_init (kt_code_dict_new _ ⟨rfl, rfl⟩) ?_
  rintro obj s₁ ⟨rfl, rfl⟩
  have hnew : (s.heap.push { cls := .type "dict", data := .dict #[] }).DictOf knd s.heap.objs.size [] := Heap.DictOf.new s.heap
  obtain ⟨lo, hlo, hlc, ln, hld⟩ := id hl
  have hlt : l < s.heap.objs.size := Heap.lt_size hlo
  have hfresh : s.heap.get? s.heap.objs.size = none := by
    cases e : s.heap.get? s.heap.objs.size with
    | none => rfl
    | some o => exact absurd (Heap.lt_size e) (Nat.lt_irrefl _)
  refine ⟨hnew.typeIs, PySem.F.args_dict_init_2 _ _, ?_⟩
  unfold Builtin.«dict.__init__»
  refine wpAny_bind ?_
  unfold Builtin.Dict.selfAndRest
  refine wpAny_bind (wpAny_notOrdered_dict hnew.typeIs ?_)
  show wpAny _ _ (pure (s.heap.objs.size, [Value.ref l])) _ _ _
  refine wpAny_pure ?_
  show wpAny _ _ (Builtin.Dict.updateFrom "dict.__init__" s.heap.objs.size (.ref l) [] .none) _ _ _
  unfold Builtin.Dict.updateFrom
  refine wpAny_bind (wpAny_typeOf (T := "list") ⟨lo, Heap.get?_push_of_some _ hlo, hlc⟩ ?_)
  rw [if_pos (by decide)]
  refine wpAny_bind (md_getAttr (Heap.get?_push_of_some _ hlo) hlc hld (hnodict lo hlo) hh fun h₁ tk₁ hk₁ => ?_)
  have hl₁ : h₁.IsList l vs := ⟨lo, hk₁ _ _ (Heap.get?_push_of_some _ hlo), hlc, ln, hld⟩
  have hd₁ : h₁.DictOf knd s.heap.objs.size [] := by
    obtain ⟨o, es, ep, ho, r⟩ := hnew
    exact ⟨o, es, ep, hk₁ _ _ ho, r⟩
  have hdlt : s.heap.objs.size < h₁.objs.size := by
    obtain ⟨o, es, ep, ho, r⟩ := hd₁
    exact Heap.lt_size ho
  rw [if_pos (by decide)]
  refine wpAny_bind (wpAny_rule (wpAny_bind (wpAny_pyIter_list hl₁ ?_)))
  refine wpAny_pure ?_
  refine ⟨plainId_quiet md_plain _, md_loop (A := A.in1) (kvs := kvs) (h₀ := s.heap) (ax := l) (vs := vs) hh ?_ ?_ (Nat.ne_of_lt hlt) hsz hlen hnd items ?_ hfresh vs.size 0 0 _ (by (first | lia | omega)) (Nat.zero_le _) ⟨_, Heap.get?_push_size _ rfl, rfl, rfl⟩ (hl₁.push _) ?_ ?_ ?_⟩
  · exact Nat.ne_of_lt (Nat.lt_trans hlt hdlt)
  · exact Nat.ne_of_gt hdlt
  · cases e : s.heap.get? h₁.objs.size with
    | none => rfl
    | some o => exact absurd (Nat.lt_trans (Heap.lt_size e) hdlt) (Nat.lt_irrefl _)
  · intro b o e
    exact Heap.get?_push_of_some _ (hk₁ _ _ (Heap.get?_push_of_some _ e))
  · obtain ⟨o, es, ep, ho, r⟩ := hd₁
    exact ⟨o, es, ep, Heap.get?_push_of_some _ ho, r⟩
  · intro h' tk hk hd
    exact ⟨rfl, h h' tk hk hd⟩
end
end

section
open PySem PySem.W PyProof.Rows
/-- the world, as plain data -/
structure St where
  n : Nat
  sort : Nat → Int
  size : Nat → Int
  mark : Nat → Int
  edges : Nat → List Nat
  live : List Nat
  freed : List Nat
  grey : List Nat
  again : List Nat
  roots : List Nat
  sweep : List Nat
  white : Int
  phase : Int
  total : Int
  est : Int
  debt : Int
  thr : Int
  cycles : Int
  turn : Nat
  cells : List Int
  ps : Nat
  pe : Nat
inductive Role where
  | world | all | edges | sorts | freed | cyc | cycD | objs | marks | marksD | grey | again | weak | roots | sweep | fch | fso | fchC | fsoC | cell | gut | cells
  | obj (i : Nat) | objD (i : Nat) | edge (i : Nat)
  deriving DecidableEq
noncomputable def Role.ok (n : Nat) : Role → Prop
  | .obj i => 1 ≤ i ∧ i ≤ n
  | .objD i => 1 ≤ i ∧ i ≤ n
  | .edge i => 1 ≤ i ∧ i ≤ n
  | _ => True
noncomputable def baseRoles : List Role := [.world, .all, .edges, .sorts, .freed, .cyc, .cycD, .objs, .marks, .marksD, .grey, .again, .weak, .roots, .sweep, .fch, .fso, .fchC, .fsoC, .cell, .gut, .cells]
noncomputable def roles (n : Nat) : List Role := baseRoles ++ ((List.range n).map (fun i => Role.obj (i + 1)) ++ ((List.range n).map (fun i => Role.objD (i + 1)) ++ (List.range n).map (fun i => Role.edge (i + 1))))
theorem mem_roles {n : Nat} {r : Role} : r ∈ roles n ↔ r.ok n := by
  unfold roles
  rw [List.mem_append, List.mem_append, List.mem_append, List.mem_map, List.mem_map, List.mem_map]
  constructor
  · rintro (h | ⟨a, ha, rfl⟩ | ⟨a, ha, rfl⟩ | ⟨a, ha, rfl⟩)
    · have hb : ∀ x ∈ baseRoles, x.ok n := by
        unfold baseRoles
        repeat' (first | exact List.forall_mem_nil _ | refine List.forall_mem_cons.mpr ⟨trivial, ?_⟩)
      exact hb _ h
    · exact ⟨Nat.succ_pos a, List.mem_range.mp ha⟩
    · exact ⟨Nat.succ_pos a, List.mem_range.mp ha⟩
    · exact ⟨Nat.succ_pos a, List.mem_range.mp ha⟩
  · intro h
    have key : ∀ i : Nat, 1 ≤ i ∧ i ≤ n → i - 1 ∈ List.range n ∧ i - 1 + 1 = i := fun i h => ⟨List.mem_range.mpr (by (first | lia | omega)), by (first | lia | omega)⟩
    cases r with
    | obj i => exact .inr (.inl ⟨i - 1, (key i h).1, congrArg Role.obj (key i h).2⟩)
    | objD i => exact .inr (.inr (.inl ⟨i - 1, (key i h).1, congrArg Role.objD (key i h).2⟩))
    | edge i => exact .inr (.inr (.inr ⟨i - 1, (key i h).1, congrArg Role.edge (key i h).2⟩))
    | _ => exact .inl (by decide)
theorem nodup_roles (n : Nat) : (roles n).Nodup := by
  unfold roles
  have hm : ∀ f : Nat → Role, (∀ a b, f a = f b → a = b) → ((List.range n).map f).Nodup := fun f hf =>
    List.Pairwise.map f (fun a b hab e => hab (hf a b e)) (List.nodup_range)
  refine List.nodup_append.mpr ⟨by decide, List.nodup_append.mpr ⟨hm _ (by intro a b e; cases e; rfl), List.nodup_append.mpr ⟨hm _ (by intro a b e; cases e; rfl), hm _ (by intro a b e; cases e; rfl), ?_⟩, ?_⟩, ?_⟩
  · intro a ha b hb
    obtain ⟨x, _, rfl⟩ := List.mem_map.mp ha
    obtain ⟨y, _, rfl⟩ := List.mem_map.mp hb
    exact fun e => nomatch e
  · intro a ha b hb
    obtain ⟨x, _, rfl⟩ := List.mem_map.mp ha
    rcases List.mem_append.mp hb with hb | hb <;> (obtain ⟨y, _, rfl⟩ := List.mem_map.mp hb; exact fun e => nomatch e)
  · intro a ha b hb e
    subst e
    rcases List.mem_append.mp hb with hb | hb
    · obtain ⟨y, _, rfl⟩ := List.mem_map.mp hb; simp [baseRoles] at ha
    · rcases List.mem_append.mp hb with hb | hb <;> (obtain ⟨y, _, rfl⟩ := List.mem_map.mp hb; simp [baseRoles] at ha)
noncomputable def upd {β : Type} (f : Role → β) (r : Role) (v : β) : Role → β := fun x => if x = r then v else f x
@[simp] theorem upd_self {β : Type} (f : Role → β) (r : Role) (v : β) : upd f r v r = v := if_pos rfl
theorem upd_ne {β : Type} (f : Role → β) {r x : Role} (v : β) (h : x ≠ r) : upd f r v x = f x := if_neg h
/-- the addresses: what stays for good, the objects and their dicts, what moves -/
noncomputable def adr (α : Role → Addr) (ο δ : Nat → Addr) (μ : Role → Addr) : Role → Addr
  | .freed => μ .freed
  | .grey => μ .grey
  | .again => μ .again
  | .weak => μ .weak
  | .sweep => μ .sweep
  | .edge i => μ (.edge i)
  | .obj i => ο i
  | .objD i => δ i
  | .world => α .world
  | .all => α .all
  | .edges => α .edges
  | .sorts => α .sorts
  | .cyc => α .cyc
  | .cycD => α .cycD
  | .objs => α .objs
  | .marks => α .marks
  | .marksD => α .marksD
  | .roots => α .roots
  | .fch => α .fch
  | .fso => α .fso
  | .fchC => α .fchC
  | .fsoC => α .fsoC
  | .cell => α .cell
  | .gut => α .gut
  | .cells => α .cells
noncomputable def led (β : Role → Addr) (σ : Role → Obj) (n : Nat) : List (Addr × Obj) := (roles n).map fun r => (β r, σ r)
noncomputable def Inj (β : Role → Addr) (n : Nat) : Prop := ∀ r r', Role.ok n r → Role.ok n r' → β r = β r' → r = r'
theorem mem_led {β : Role → Addr} {σ : Role → Obj} {n : Nat} {r : Role} (h : r.ok n) : (β r, σ r) ∈ led β σ n := List.mem_map.mpr ⟨r, mem_roles.mpr h, rfl⟩
theorem of_led {β : Role → Addr} {σ : Role → Obj} {n : Nat} {p : Addr × Obj} (h : p ∈ led β σ n) : ∃ r, Role.ok n r ∧ p = (β r, σ r) := by
  obtain ⟨r, hr, rfl⟩ := List.mem_map.mp h
  exact ⟨r, mem_roles.mp hr, rfl⟩
theorem upd_map {β : Role → Addr} {σ : Role → Obj} {r : Role} (o' : Obj) : ∀ {rs : List Role}, rs.Nodup → r ∈ rs → (∀ a ∈ rs, β a = β r → a = r) → Upd (β r) (σ r) o' (rs.map fun x => (β x, σ x)) (rs.map fun x => (β x, upd σ r o' x))
  | [], _, h, _ => nomatch h
  | a :: rs, nd, hr, inj => by
    have nd' := List.nodup_cons.mp nd
    have same : ∀ l : List Role, r ∉ l → (l.map fun x => (β x, upd σ r o' x)) = l.map fun x => (β x, σ x) := fun l hl => by
      refine List.map_congr_left fun x hx => ?_
      rw [upd_ne]; rintro rfl; exact hl hx
    by_cases e : a = r
    · subst e
      rw [List.map_cons, List.map_cons, upd_self, same rs nd'.1]
      refine Upd.head fun p hp => ?_
      obtain ⟨x, hx, rfl⟩ := List.mem_map.mp hp
      intro q
      have := inj x (.tail _ hx) q
      subst this; exact nd'.1 hx
    · rw [List.map_cons, List.map_cons, upd_ne _ _ e]
      refine Upd.tail (fun q => e (inj a (.head _) q)) (upd_map o' nd'.2 ?_ fun x hx => inj x (.tail _ hx))
      rcases List.mem_cons.mp hr with h | h
      · exact absurd h.symm e
      · exact h
theorem updF_map {β : Role → Addr} {σ : Role → Obj} {r : Role} : ∀ {rs : List Role}, rs.Nodup → r ∈ rs → (∀ a ∈ rs, β a = β r → a = r) → UpdF (β r) (σ r) (rs.map fun x => (β x, σ x)) (fun o' => rs.map fun x => (β x, upd σ r o' x))
  | [], _, h, _ => nomatch h
  | a :: rs, nd, hr, inj => by
    have nd' := List.nodup_cons.mp nd
    have same : ∀ (l : List Role) (o' : Obj), r ∉ l → (l.map fun x => (β x, upd σ r o' x)) = l.map fun x => (β x, σ x) := fun l o' hl => by
      refine List.map_congr_left fun x hx => ?_
      rw [upd_ne]; rintro rfl; exact hl hx
    by_cases e : a = r
    · subst e
      have e1 : (fun o' => (a :: rs).map fun x => (β x, upd σ a o' x)) = fun o' => (β a, o') :: rs.map fun x => (β x, σ x) := by
        funext o'
        rw [List.map_cons, upd_self, same rs o' nd'.1]
      rw [e1, List.map_cons]
      refine UpdF.head fun p hp => ?_
      obtain ⟨x, hx, rfl⟩ := List.mem_map.mp hp
      intro q
      have := inj x (.tail _ hx) q
      subst this; exact nd'.1 hx
    · have e1 : (fun o' => (a :: rs).map fun x => (β x, upd σ r o' x)) = fun o' => (β a, σ a) :: rs.map fun x => (β x, upd σ r o' x) := by
        funext o'
        rw [List.map_cons, upd_ne _ _ e]
      rw [e1, List.map_cons]
      refine UpdF.tail (fun q => e (inj a (.head _) q)) (updF_map nd'.2 ?_ fun x hx => inj x (.tail _ hx))
      rcases List.mem_cons.mp hr with h | h
      · exact absurd h.symm e
      · exact h
theorem led_upd {β : Role → Addr} {σ : Role → Obj} {n : Nat} {r : Role} (i : Inj β n) (h : r.ok n) (o' : Obj) : Upd (β r) (σ r) o' (led β σ n) (led β (upd σ r o') n) :=
  upd_map o' (nodup_roles n) (mem_roles.mpr h) fun a ha e => i a r (mem_roles.mp ha) h e
theorem led_updF {β : Role → Addr} {σ : Role → Obj} {n : Nat} {r : Role} (i : Inj β n) (h : r.ok n) : UpdF (β r) (σ r) (led β σ n) (fun o' => led β (upd σ r o') n) :=
  updF_map (nodup_roles n) (mem_roles.mpr h) fun a ha e => i a r (mem_roles.mp ha) h e
/-- a list object -/
noncomputable def IsLO (o : Obj) (vs : List Value) : Prop := ∃ k, o = W.listOf vs.toArray k
/-- ints by numbers of objects -/
inductive Nums : List Value → List Nat → Prop
  | nil : Nums [] []
  | cons (i : Nat) (t : Tok) {vs ns} : Nums vs ns → Nums (.int (i : Int) t :: vs) (i :: ns)
noncomputable def numKV (f : Nat → Addr) (l : List Nat) : List (Int × Value) := l.map fun (i : Nat) => (((i : Nat) : Int), Value.ref (f i))
noncomputable def refs (f : Nat → Addr) (l : List Nat) : List Value := l.map fun (i : Nat) => Value.ref (f i)
inductive SortKV (f : Nat → Int) : List Nat → List (Int × Value) → Prop
  | nil : SortKV f [] []
  | cons (i : Nat) (t : Tok) {l : List Nat} {kvs : List (Int × Value)} : SortKV f l kvs → SortKV f (i :: l) ((((i : Nat) : Int), Value.int (f i) t) :: kvs)
noncomputable def upTo (n : Nat) : List Nat := (List.range n).map (· + 1)
noncomputable abbrev PP : Program := PySem.Challenge.rw_sm0060_01.row.prog
noncomputable abbrev sK (w : World) := strKind PP w
noncomputable abbrev iK (w : World) := intKind PP w
noncomputable abbrev S (x : String) : Str := PySem.Str.ofString x
noncomputable def cycKV (α μ : Role → Addr) (st : St) (τ : Nat → Tok) : List (Str × Value) :=
  [(S "objects", .ref (α .objs)), (S "marks", .ref (α .marks)), (S "root_list", .ref (α .roots)), (S "phase", .int st.phase (τ 0)), (S "to_sweep", .ref (μ .sweep)), (S "total", .int st.total (τ 1)),
   (S "estimate", .int st.est (τ 2)), (S "debt", .int st.debt (τ 3)), (S "step_size", .int 64 (τ 4)), (S "sweep_max", .int 16 (τ 5)), (S "threshold", .int st.thr (τ 6)), (S "pause", .int 200 (τ 7)), (S "step_mul", .int 200 (τ 8)), (S "cycles", .int st.cycles (τ 9))]
noncomputable def marksKV (α μ : Role → Addr) (st : St) (τ : Nat → Tok) : List (Str × Value) :=
  [(S "children", .ref (α .fch)), (S "sort_of", .ref (α .fso)), (S "white", .int st.white (τ 0)), (S "grey", .ref (μ .grey)), (S "grey_again", .ref (μ .again)), (S "weak", .ref (μ .weak))]
noncomputable def objKV (st : St) (i : Nat) (τ : Nat → Tok) : List (Str × Value) := [(S "number", .int (i : Int) (τ 0)), (S "mark", .int (st.mark i) (τ 1)), (S "size", .int (st.size i) (τ 2))]
noncomputable def worldKV (α μ : Role → Addr) : List (Str × Value) := [(S "all", .ref (α .all)), (S "edges", .ref (α .edges)), (S "sorts", .ref (α .sorts)), (S "freed", .ref (μ .freed)), (S "cycle", .ref (α .cyc))]
noncomputable def Shape (w : World) (α : Role → Addr) (ω : Role → Obj) (ο δ : Nat → Addr) (μ : Role → Addr) (st : St) : Role → Obj → Prop
  | .world, o => o.IsDictOf (sK w) (worldKV α μ)
  | .all, o => o.IsDictOf (iK w) (numKV ο (upTo st.n))
  | .edges, o => o.IsDictOf (iK w) (numKV (fun i => μ (.edge i)) (upTo (st.n + st.pe)))
  | .sorts, o => ∃ kvs, o.IsDictOf (iK w) kvs ∧ SortKV st.sort (upTo (st.n + st.ps)) kvs
  | .freed, o => ∃ vs, IsLO o vs ∧ Nums vs st.freed
  | .cyc, o => o = instObj 346 (α .cycD)
  | .cycD, o => ∃ τ, o.IsDictOf (sK w) (cycKV α μ st τ)
  | .objs, o => o.IsDictOf (iK w) (numKV ο st.live)
  | .marks, o => o = instObj 136 (α .marksD)
  | .marksD, o => ∃ τ, o.IsDictOf (sK w) (marksKV α μ st τ)
  | .grey, o => IsLO o (refs ο st.grey)
  | .again, o => IsLO o (refs ο st.again)
  | .weak, o => IsLO o []
  | .roots, o => o = ω .roots ∧ IsLO o (refs ο st.roots)
  | .sweep, o => ∃ vs, IsLO o vs ∧ Nums vs st.sweep
  | .fch, o => o = ω .fch
  | .fso, o => o = ω .fso
  | .fchC, o => o = ω .fchC
  | .fsoC, o => o = ω .fsoC
  | .cell, o => o = ω .cell
  | .gut, o => ∃ t, IsLO o [.ref (α .cells), .int (st.turn : Int) t]
  | .cells, o => ∃ vs, IsLO o vs ∧ IntsAre vs st.cells
  | .obj i, o => o = instObj 367 (δ i)
  | .objD i, o => ∃ τ, o.IsDictOf (sK w) (objKV st i τ)
  | .edge i, o => ∃ vs, IsLO o vs ∧ Nums vs (st.edges i)
structure Good (w : World) (α : Role → Addr) (ω : Role → Obj) (ο δ : Nat → Addr) (μ : Role → Addr) (σ : Role → Obj) (st : St) : Prop where
  inj : Inj (adr α ο δ μ) st.n
  lo : ∀ r, r.ok st.n → 1 < adr α ο δ μ r
  sh : ∀ r, r.ok st.n → Shape w α ω ο δ μ st r (σ r)
noncomputable abbrev ledW (α : Role → Addr) (ο δ : Nat → Addr) (μ : Role → Addr) (σ : Role → Obj) (st : St) : List (Addr × Obj) := led (adr α ο δ μ) σ st.n
end

section
open PySem PySem.W PyProof.Rows
noncomputable def St.setMark (st : St) (i : Nat) (k : Int) : St := { st with mark := fun j => if j = i then k else st.mark j }
noncomputable def St.setGrey (st : St) (l : List Nat) : St := { st with grey := l }
noncomputable def St.setAgain (st : St) (l : List Nat) : St := { st with again := l }
noncomputable def St.setSweep (st : St) (l : List Nat) : St := { st with sweep := l }
noncomputable def St.setLive (st : St) (l : List Nat) : St := { st with live := l }
noncomputable def St.setFreed (st : St) (l : List Nat) : St := { st with freed := l }
noncomputable def St.setWhite (st : St) (k : Int) : St := { st with white := k }
noncomputable def St.setPhase (st : St) (k : Int) : St := { st with phase := k }
noncomputable def St.setTotal (st : St) (k : Int) : St := { st with total := k }
noncomputable def St.setEst (st : St) (k : Int) : St := { st with est := k }
noncomputable def St.setDebt (st : St) (k : Int) : St := { st with debt := k }
noncomputable def St.setThr (st : St) (k : Int) : St := { st with thr := k }
noncomputable def St.setCycles (st : St) (k : Int) : St := { st with cycles := k }
noncomputable def St.setTurn (st : St) (k : Nat) : St := { st with turn := k }
noncomputable def St.setEdge (st : St) (i : Nat) (l : List Nat) : St := { st with edges := fun j => if j = i then l else st.edges j }
noncomputable def St.setSort (st : St) (i : Nat) (k : Int) : St := { st with sort := fun j => if j = i then k else st.sort j }
noncomputable def St.setSize (st : St) (i : Nat) (k : Int) : St := { st with size := fun j => if j = i then k else st.size j }
noncomputable def St.setPs (st : St) (k : Nat) : St := { st with ps := k }
noncomputable def St.setPe (st : St) (k : Nat) : St := { st with pe := k }
noncomputable def St.grow (st : St) : St := { st with n := st.n + 1, ps := 0, pe := 0 }
noncomputable def St.ok (st : St) (i : Nat) : Prop := 1 ≤ i ∧ i ≤ st.n
noncomputable def St.dead (st : St) (i : Nat) : Bool := decide (st.mark i = 4 ∨ (st.mark i < 2 ∧ st.mark i ≠ st.white))
theorem dead_def {st : St} {i : Nat} : st.dead i = true ↔ st.mark i = 4 ∨ (st.mark i < 2 ∧ st.mark i ≠ st.white) := decide_eq_true_iff
/-- what stays while the marks turn -/
structure Wf (st : St) : Prop where
  small : st.n ≤ 15
  sort : ∀ i, st.ok i → st.sort i = 0 ∨ st.sort i = 1 ∨ st.sort i = 3
  size : ∀ i, st.ok i → 1 ≤ st.size i
  edge : ∀ i, st.ok i → ∀ c ∈ st.edges i, st.ok c
  elen : ∀ i, st.ok i → (st.edges i).length ≤ 100
noncomputable def whites (st : St) : Nat := ((upTo st.n).filter fun i => decide (st.mark i < 2)).length
/-- «mark», with fuel -/
noncomputable def markF : Nat → St → Nat → St
  | 0, st, _ => st
  | k + 1, st, i => if st.mark i < 2 then
      if st.sort i = 1 then (st.edges i).foldl (markF k) (st.setMark i 3) else { st.setMark i 2 with grey := st.grey ++ [i] }
    else st
noncomputable def markAll (st : St) (l : List Nat) : St := l.foldl (markF 20) st
/-- «propagate», when what waits is l and i on top -/
noncomputable def propAt (st : St) (l : List Nat) (i : Nat) : St :=
  markAll (if st.sort i = 3 then { st.setMark i 2 with grey := l, again := st.again ++ [i] } else { st.setMark i 3 with grey := l }) (st.edges i)
noncomputable def propAllF : Nat → St → St
  | 0, st => st
  | k + 1, st => match st.grey.getLast? with
    | none => st
    | some i => propAllF k (propAt st st.grey.dropLast i)
noncomputable def propAll (st : St) : St := propAllF (whites st + st.grey.length) st
noncomputable def forget (st : St) : St := { st with grey := [], again := [] }
noncomputable def begin (st : St) : St := markAll (forget st) st.roots
noncomputable def finish (st : St) : St :=
  let st1 := propAll st
  let st2 := markAll { st1 with grey := [] } st1.roots
  let st3 := propAll st2
  propAll { st3 with grey := st3.again, again := [] }
noncomputable def barrier (st : St) (p c : Nat) (b : Bool) : St := if st.mark p ≠ 3 ∨ ¬ st.mark c < 2 ∨ st.dead c then st else if b then markF 20 st c else st.setMark p st.white
noncomputable def barrierBack (st : St) (i : Nat) : St := if st.mark i = 3 then { st.setMark i 2 with again := st.again ++ [i] } else st
noncomputable def flip (st : St) : St := { st with white := 1 - st.white }
noncomputable def atomic (st : St) : St :=
  let st1 := flip (finish st)
  { st1 with sweep := st1.live, phase := 2, est := max 0 st1.total }
noncomputable def freeAt (st : St) (j : Nat) : St := { st.setMark j 4 with live := st.live.filter (fun x => decide (x ≠ j)), total := st.total - st.size j }
noncomputable def sweepOne (st : St) (j : Nat) : St := if j ∈ st.live then (if st.dead j then freeAt st j else st.setMark j st.white) else st
noncomputable def sweepF : Nat → St → St
  | 0, st => st
  | k + 1, st => match st.sweep.getLast? with
    | none => st
    | some j => sweepF k (sweepOne { st with sweep := st.sweep.dropLast } j)
noncomputable def sweepStep (st : St) : St :=
  let st1 := sweepF 16 st
  let st2 := if st1.sweep = [] then { st1 with phase := 3 } else st1
  { st2 with est := max 0 (st2.est - (st.total - st2.total)) }
noncomputable def finalize (st : St) : St := { st with phase := 0, debt := 0, cycles := st.cycles + 1 }
noncomputable def single (st : St) : St :=
  if st.phase = 0 then { begin st with phase := 1 }
  else if st.phase = 1 then (match st.grey.getLast? with
    | some i => propAt st st.grey.dropLast i
    | none => atomic st)
  else if st.phase = 2 then sweepStep st
  else finalize st
noncomputable def stepsTo (ph : Int) : Nat → St → St
  | 0, st => st
  | k + 1, st => if st.phase = ph then st else stepsTo ph k (single st)
noncomputable def full (st : St) : St :=
  let st1 := if st.phase ≤ 1 then { forget st with sweep := st.live, phase := 2 } else st
  let st2 := stepsTo 3 2 st1
  let st3 := { begin st2 with phase := 1 }
  let st4 := stepsTo 0 40 st3
  { st4 with thr := st4.est * 200 / 100 }
end

section
open PySem PySem.W PyProof.Rows
theorem filter_flip {p q : Nat → Bool} {i : Nat} : ∀ {l : List Nat}, l.Nodup → i ∈ l → p i = true → q i = false → (∀ j, j ≠ i → q j = p j) → (l.filter q).length + 1 = (l.filter p).length
  | [], _, h, _, _, _ => nomatch h
  | a :: l, nd, h, hp, hq, hne => by
    have nd' := List.nodup_cons.mp nd
    rw [List.filter_cons, List.filter_cons]
    by_cases e : a = i
    · subst e
      have same : l.filter q = l.filter p := List.filter_congr fun x hx => hne x fun e => nd'.1 (e ▸ hx)
      simp [hp, hq, same]
    · have ih := filter_flip nd'.2 ((List.mem_cons.mp h).resolve_left fun q => e q.symm) hp hq hne
      rw [hne a e]
      by_cases hpa : p a = true
      · simp [hpa]; (first | lia | omega)
      · simp [hpa]; (first | lia | omega)
theorem filter_le {p q : Nat → Bool} : ∀ {l : List Nat}, (∀ j, q j = true → p j = true) → (l.filter q).length ≤ (l.filter p).length
  | [], _ => Nat.le_refl _
  | a :: l, h => by
    have ih := filter_le (l := l) h
    rw [List.filter_cons, List.filter_cons]
    by_cases hq : q a = true
    · simp [hq, h a hq]; (first | lia | omega)
    · by_cases hp : p a = true
      · simp [hq, hp]; (first | lia | omega)
      · simp [hq, hp]; (first | lia | omega)
theorem nodup_upTo (n : Nat) : (upTo n).Nodup := by
  unfold upTo
  exact List.Pairwise.map _ (fun a b hab e => hab (by (first | lia | omega))) List.nodup_range
theorem mem_upTo {n i : Nat} : i ∈ upTo n ↔ 1 ≤ i ∧ i ≤ n := by
  unfold upTo
  constructor
  · intro h; obtain ⟨a, ha, rfl⟩ := List.mem_map.mp h; have := List.mem_range.mp ha; (first | lia | omega)
  · intro h; exact List.mem_map.mpr ⟨i - 1, List.mem_range.mpr (by (first | lia | omega)), by (first | lia | omega)⟩
theorem whites_set {st : St} {i : Nat} {k : Int} (hi : st.ok i) (hw : st.mark i < 2) (hk : 2 ≤ k) : whites (st.setMark i k) + 1 = whites st := by
  unfold whites
  refine filter_flip (i := i) (nodup_upTo _) (mem_upTo.mpr hi) (by simpa using hw) (by simp [St.setMark]; (first | lia | omega)) fun j hj => ?_
  simp [St.setMark, hj]
theorem whites_mono {st st' : St} (hn : st'.n = st.n) (h : ∀ j, st'.mark j < 2 → st.mark j < 2) : whites st' ≤ whites st := by
  unfold whites
  rw [hn]
  exact filter_le fun j hj => by
    have := h j (of_decide_eq_true hj)
    simpa using this
theorem whites_le (st : St) : whites st ≤ st.n := by
  unfold whites
  refine Nat.le_trans (List.length_filter_le _ _) ?_
  simp [upTo]
/-- only marks and what waits have turned -/
noncomputable def SameM (st st' : St) : Prop := st' = { st with mark := st'.mark, grey := st'.grey }
theorem SameM.refl (st : St) : SameM st st := rfl
theorem SameM.trans {a b c : St} (h : SameM a b) (h' : SameM b c) : SameM a c := by
  unfold SameM at *; rw [h', h]
theorem SameM.setMark (st : St) (i : Nat) (k : Int) : SameM st (st.setMark i k) := rfl
theorem SameM.n {st st' : St} (h : SameM st st') : st'.n = st.n := by rw [h]
theorem SameM.sort {st st' : St} (h : SameM st st') : st'.sort = st.sort := by rw [h]
theorem SameM.edges {st st' : St} (h : SameM st st') : st'.edges = st.edges := by rw [h]
theorem SameM.wf {st st' : St} (h : SameM st st') (w : Wf st) : Wf st' := by
  rw [h]; exact ⟨w.small, w.sort, w.size, w.edge, w.elen⟩
theorem SameM.ok {st st' : St} (h : SameM st st') {i : Nat} (hi : st.ok i) : st'.ok i := by
  rw [h]; exact hi
theorem markF_same : ∀ (k : Nat) (st : St) (i : Nat), SameM st (markF k st i)
  | 0, st, _ => SameM.refl st
  | k + 1, st, i => by
    unfold markF
    split
    · split
      · have : ∀ (l : List Nat) (a : St), SameM a (l.foldl (markF k) a) := fun l => by
          induction l with
          | nil => exact fun a => SameM.refl a
          | cons x l ih => exact fun a => (markF_same k a x).trans (ih _)
        exact (SameM.setMark st i 3).trans (this _ _)
      · rfl
    · exact SameM.refl st
theorem foldF_same (k : Nat) (l : List Nat) : ∀ a : St, SameM a (l.foldl (markF k) a) := by
  induction l with
  | nil => exact fun a => SameM.refl a
  | cons x l ih => exact fun a => (markF_same k a x).trans (ih _)
/-- whites turn; the rest stays -/
theorem markF_white : ∀ (k : Nat) (st : St) (i j : Nat), (markF k st i).mark j < 2 → (markF k st i).mark j = st.mark j ∧ st.mark j < 2
  | 0, _, _, _, h => ⟨rfl, h⟩
  | k + 1, st, i, j, h => by
    unfold markF at h ⊢
    split at h
    · rename_i hw
      rw [if_pos hw]
      split at h
      · rename_i hs
        rw [if_pos hs]
        have : ∀ (l : List Nat) (a : St), (l.foldl (markF k) a).mark j < 2 → (l.foldl (markF k) a).mark j = a.mark j ∧ a.mark j < 2 := fun l => by
          induction l with
          | nil => exact fun a h => ⟨rfl, h⟩
          | cons x l ih =>
            intro a h
            have h1 := ih _ h
            have h2 := markF_white k a x j h1.2
            exact ⟨h1.1.trans h2.1, h2.2⟩
        have h1 := this _ _ h
        rw [h1.1]
        have h2 := h1.2
        unfold St.setMark at h2 ⊢
        dsimp only at h2 ⊢
        split at h2
        · (first | lia | omega)
        · rename_i hne; rw [if_neg hne]; exact ⟨rfl, h2⟩
      · rename_i hs
        rw [if_neg hs]
        unfold St.setMark at h ⊢
        dsimp only at h ⊢
        split at h
        · (first | lia | omega)
        · rename_i hne; rw [if_neg hne]; exact ⟨rfl, h⟩
    · rename_i hw
      rw [if_neg hw]
      exact ⟨rfl, h⟩
theorem foldF_white (k : Nat) (l : List Nat) : ∀ (a : St) (j : Nat), (l.foldl (markF k) a).mark j < 2 → (l.foldl (markF k) a).mark j = a.mark j ∧ a.mark j < 2 := by
  induction l with
  | nil => exact fun a j h => ⟨rfl, h⟩
  | cons x l ih =>
    intro a j h
    have h1 := ih _ j h
    have h2 := markF_white k a x j h1.2
    exact ⟨h1.1.trans h2.1, h2.2⟩
theorem markF_whites (k : Nat) (st : St) (i : Nat) : whites (markF k st i) ≤ whites st := whites_mono (markF_same k st i).n fun j h => (markF_white k st i j h).2
theorem foldF_whites (k : Nat) (l : List Nat) (st : St) : whites (l.foldl (markF k) st) ≤ whites st := whites_mono (foldF_same k l st).n fun j h => (foldF_white k l st j h).2
/-- what waits and what is white: no more together -/
theorem markF_sum : ∀ (k : Nat) (st : St) (i : Nat), Wf st → st.ok i → whites (markF k st i) + (markF k st i).grey.length ≤ whites st + st.grey.length
  | 0, _, _, _, _ => Nat.le_refl _
  | k + 1, st, i, hw, hi => by
    unfold markF
    split
    · rename_i h2
      split
      · have fold : ∀ (l : List Nat) (a : St), Wf a → (∀ c ∈ l, a.ok c) → whites (l.foldl (markF k) a) + (l.foldl (markF k) a).grey.length ≤ whites a + a.grey.length := fun l => by
          induction l with
          | nil => exact fun a _ _ => Nat.le_refl _
          | cons x l ih =>
            intro a ha hc
            have h1 := markF_sum k a x ha (hc x (.head _))
            have h2 := ih (markF k a x) ((markF_same k a x).wf ha) fun c h => (markF_same k a x).ok (hc c (.tail _ h))
            rw [List.foldl_cons]; (first | lia | omega)
        have h1 := fold (st.edges i) (st.setMark i 3) ((SameM.setMark st i 3).wf hw) fun c hc => hw.edge i hi c hc
        have h3 := whites_set (k := 3) hi h2 (by (first | lia | omega))
        have e : (st.setMark i 3).grey = st.grey := rfl
        rw [e] at h1
        (first | lia | omega)
      · have h3 := whites_set (k := 2) hi h2 (by (first | lia | omega))
        have e : whites { st.setMark i 2 with grey := st.grey ++ [i] } = whites (st.setMark i 2) := rfl
        rw [e]
        show _ + (st.grey ++ [i]).length ≤ _
        rw [List.length_append, List.length_singleton]
        (first | lia | omega)
    · exact Nat.le_refl _
theorem foldF_sum (k : Nat) : ∀ (l : List Nat) (a : St), Wf a → (∀ c ∈ l, a.ok c) → whites (l.foldl (markF k) a) + (l.foldl (markF k) a).grey.length ≤ whites a + a.grey.length := fun l => by
  induction l with
  | nil => exact fun a _ _ => Nat.le_refl _
  | cons x l ih =>
    intro a ha hc
    have h1 := markF_sum k a x ha (hc x (.head _))
    have h2 := ih (markF k a x) ((markF_same k a x).wf ha) fun c h => (markF_same k a x).ok (hc c (.tail _ h))
    rw [List.foldl_cons]; (first | lia | omega)
end

section
open PySem PySem.W PyProof.Rows
/-- sound, with what waits sound too -/
structure Wg (st : St) : Prop where
  wf : Wf st
  grey : ∀ i ∈ st.grey, st.ok i
  again : ∀ i ∈ st.again, st.ok i
  roots : ∀ i ∈ st.roots, st.ok i
  sum : whites st + st.grey.length + st.again.length ≤ 900
theorem SameM.again {st st' : St} (h : SameM st st') : st'.again = st.again := by rw [h]
theorem SameM.roots {st st' : St} (h : SameM st st') : st'.roots = st.roots := by rw [h]
theorem markF_grey : ∀ (k : Nat) (st : St) (i : Nat), Wf st → st.ok i → (∀ j ∈ st.grey, st.ok j) → ∀ j ∈ (markF k st i).grey, st.ok j
  | 0, _, _, _, _, h => h
  | k + 1, st, i, hw, hi, h => by
    unfold markF
    split
    · split
      · have fold : ∀ (l : List Nat) (a : St), Wf a → (∀ c ∈ l, a.ok c) → (∀ j ∈ a.grey, a.ok j) → ∀ j ∈ (l.foldl (markF k) a).grey, a.ok j := fun l => by
          induction l with
          | nil => exact fun a _ _ h => h
          | cons x l ih =>
            intro a ha hc h j hj
            have hs := markF_same k a x
            have h1 := ih (markF k a x) (hs.wf ha) (fun c h => hs.ok (hc c (.tail _ h))) (fun j hj => hs.ok (markF_grey k a x ha (hc x (.head _)) h j hj)) j hj
            unfold St.ok at h1 ⊢; rw [hs.n] at h1; exact h1
        exact fold (st.edges i) (st.setMark i 3) ((SameM.setMark st i 3).wf hw) (fun c hc => hw.edge i hi c hc) h
      · intro j hj
        rcases List.mem_append.mp hj with hj | hj
        · exact h j hj
        · rw [List.mem_singleton.mp hj]; exact hi
    · exact h
theorem foldF_grey (k : Nat) : ∀ (l : List Nat) (a : St), Wf a → (∀ c ∈ l, a.ok c) → (∀ j ∈ a.grey, a.ok j) → ∀ j ∈ (l.foldl (markF k) a).grey, a.ok j := fun l => by
  induction l with
  | nil => exact fun a _ _ h => h
  | cons x l ih =>
    intro a ha hc h j hj
    have hs := markF_same k a x
    have h1 := ih (markF k a x) (hs.wf ha) (fun c h => hs.ok (hc c (.tail _ h))) (fun j hj => hs.ok (markF_grey k a x ha (hc x (.head _)) h j hj)) j hj
    unfold St.ok at h1 ⊢; rw [hs.n] at h1; exact h1
theorem SameM.okIff {st st' : St} (h : SameM st st') (i : Nat) : st'.ok i ↔ st.ok i := by unfold St.ok; rw [h.n]
theorem foldF_wg (k : Nat) (l : List Nat) {a : St} (h : Wg a) (hl : ∀ c ∈ l, a.ok c) : Wg (l.foldl (markF k) a) := by
  have hs := foldF_same k l a
  have hsum := foldF_sum k l a h.wf hl
  refine ⟨hs.wf h.wf, fun i hi => hs.ok (foldF_grey k l a h.wf hl h.grey i hi), ?_, ?_, ?_⟩
  · rw [hs.again]; exact fun i hi => hs.ok (h.again i hi)
  · rw [hs.roots]; exact fun i hi => hs.ok (h.roots i hi)
  · rw [hs.again]; have := h.sum; (first | lia | omega)
/-- the state ahead of «propagate»'s loop -/
noncomputable def propPre (st : St) (l : List Nat) (i : Nat) : St := if st.sort i = 3 then { st.setMark i 2 with grey := l, again := st.again ++ [i] } else { st.setMark i 3 with grey := l }
theorem propAt_eq (st : St) (l : List Nat) (i : Nat) : propAt st l i = markAll (propPre st l i) (st.edges i) := rfl
theorem whites_up {st : St} {i : Nat} {k : Int} (hk : 2 ≤ k) (l a : List Nat) : whites ({ st.setMark i k with grey := l, again := a } : St) ≤ whites st := whites_mono rfl fun j hj => by
  unfold St.setMark at hj; dsimp only at hj; split at hj
  · (first | lia | omega)
  · exact hj
theorem propPre_wg {st : St} {l : List Nat} {i : Nat} (h : Wg st) (hg : st.grey = l ++ [i]) : Wg (propPre st l i) ∧ (propPre st l i).edges = st.edges ∧ (propPre st l i).n = st.n ∧ whites (propPre st l i) + (propPre st l i).grey.length + 1 ≤ whites st + st.grey.length := by
  have hi : st.ok i := h.grey i (by rw [hg]; simp)
  have hl : ∀ j ∈ l, st.ok j := fun j hj => h.grey j (by rw [hg]; simp [hj])
  have hlen : st.grey.length = l.length + 1 := by rw [hg]; simp
  have hsum := h.sum
  unfold propPre
  split
  · have w1 := whites_up (st := st) (i := i) (k := 2) (by (first | lia | omega)) l (st.again ++ [i])
    refine ⟨⟨⟨h.wf.small, h.wf.sort, h.wf.size, h.wf.edge, h.wf.elen⟩, hl, ?_, h.roots, ?_⟩, rfl, rfl, ?_⟩
    · intro j hj
      rcases List.mem_append.mp hj with hj | hj
      · exact h.again j hj
      · rw [List.mem_singleton.mp hj]; exact hi
    · show _ + l.length + (st.again ++ [i]).length ≤ 900
      rw [List.length_append, List.length_singleton]; (first | lia | omega)
    · show _ + l.length + 1 ≤ _; (first | lia | omega)
  · have w1 := whites_up (st := st) (i := i) (k := 3) (by (first | lia | omega)) l st.again
    have w2 : whites ({ st.setMark i 3 with grey := l } : St) ≤ whites st := w1
    refine ⟨⟨⟨h.wf.small, h.wf.sort, h.wf.size, h.wf.edge, h.wf.elen⟩, hl, h.again, h.roots, ?_⟩, rfl, rfl, ?_⟩
    · show _ + l.length + st.again.length ≤ 900; (first | lia | omega)
    · show _ + l.length + 1 ≤ _; (first | lia | omega)
theorem propAt_wg {st : St} {l : List Nat} {i : Nat} (h : Wg st) (hg : st.grey = l ++ [i]) : Wg (propAt st l i) ∧ whites (propAt st l i) + (propAt st l i).grey.length + 1 ≤ whites st + st.grey.length := by
  obtain ⟨h1, he, hn, hs⟩ := propPre_wg h hg
  have hi : st.ok i := h.grey i (by rw [hg]; simp)
  have hl : ∀ c ∈ st.edges i, (propPre st l i).ok c := fun c hc => by
    have := h.wf.edge i hi c hc
    unfold St.ok at this ⊢; rw [hn]; exact this
  rw [propAt_eq]
  unfold markAll
  refine ⟨foldF_wg 20 _ h1 hl, ?_⟩
  have := foldF_sum 20 (st.edges i) _ h1.wf hl
  (first | lia | omega)
theorem last_split {l : List Nat} {i : Nat} (h : l.getLast? = some i) : l = l.dropLast ++ [i] := by
  have hne : l ≠ [] := by intro e; subst e; cases h
  rw [List.getLast?_eq_some_getLast hne] at h
  have := List.dropLast_concat_getLast hne
  rw [Option.some.inj h] at this
  exact this.symm
theorem propAllF_stable : ∀ (k : Nat) (st : St), Wg st → whites st + st.grey.length ≤ k → propAllF (k + 1) st = propAllF k st
  | 0, st, _, hk => by
    have : st.grey = [] := List.length_eq_zero_iff.mp (by (first | lia | omega))
    unfold propAllF
    rw [this]; rfl
  | k + 1, st, h, hk => by
    rw [propAllF]
    conv => rhs; rw [propAllF]
    cases hl : st.grey.getLast? with
    | none => rfl
    | some i =>
      have hg := last_split hl
      obtain ⟨h1, h2⟩ := propAt_wg h hg
      exact propAllF_stable k _ h1 (by (first | lia | omega))
theorem propAllF_big {st : St} (h : Wg st) : ∀ (d : Nat), propAllF (whites st + st.grey.length + d) st = propAll st
  | 0 => rfl
  | d + 1 => by
    rw [← Nat.add_assoc, propAllF_stable _ st h (by (first | lia | omega))]
    exact propAllF_big h d
theorem propAll_step {st : St} {l : List Nat} {i : Nat} (h : Wg st) (hg : st.grey = l ++ [i]) : propAll (propAt st l i) = propAll st := by
  obtain ⟨h1, h2⟩ := propAt_wg h hg
  have e : propAll st = propAllF (whites st + st.grey.length) st := rfl
  obtain ⟨d, hd0⟩ := Nat.le.dest h2
  have hd : whites st + st.grey.length = (whites (propAt st l i) + (propAt st l i).grey.length + d) + 1 := hd0.symm.trans (Nat.add_right_comm _ _ _)
  rw [e, hd, propAllF]
  have hlast : st.grey.getLast? = some i := by rw [hg]; simp
  have hdrop : st.grey.dropLast = l := by rw [hg]; simp
  rw [hlast, hdrop]
  exact (propAllF_big h1 d).symm
theorem propAll_nil {st : St} (hg : st.grey = []) : propAll st = st := by
  unfold propAll
  cases h : whites st + st.grey.length with
  | zero => rfl
  | succ k => rw [propAllF, hg]; rfl
theorem propAll_wg_aux : ∀ (k : Nat) (st : St), Wg st → whites st + st.grey.length ≤ k → Wg (propAllF k st) ∧ (propAllF k st).grey = []
  | 0, st, h, hk => by
    have : st.grey = [] := List.length_eq_zero_iff.mp (by (first | lia | omega))
    exact ⟨h, this⟩
  | k + 1, st, h, hk => by
    rw [propAllF]
    cases hl : st.grey.getLast? with
    | none => exact ⟨h, List.getLast?_eq_none_iff.mp hl⟩
    | some i =>
      obtain ⟨h1, h2⟩ := propAt_wg h (last_split hl)
      exact propAll_wg_aux k _ h1 (by (first | lia | omega))
theorem propAll_wg {st : St} (h : Wg st) : Wg (propAll st) ∧ (propAll st).grey = [] := propAll_wg_aux _ st h (Nat.le_refl _)
end

section
open PySem PySem.W PyProof.Rows
noncomputable abbrev HK (w : World) : Frag := hd0.heap_1 w.params
theorem sub_refl {l : List (Addr × Obj)} : ∀ p ∈ l, p ∈ l := fun _ h => h
theorem sub_cons {l l' : List (Addr × Obj)} {q : Addr × Obj} (h : ∀ p ∈ l, p ∈ l') : ∀ p ∈ l, p ∈ q :: l' := fun p hp => List.mem_cons_of_mem _ (h p hp)
theorem Good.set {w : World} {α : Role → Addr} {ω : Role → Obj} {ο δ : Nat → Addr} {μ : Role → Addr} {σ : Role → Obj} {st st' : St} {r : Role} {o' : Obj} (G : Good w α ω ο δ μ σ st) (hn : st'.n = st.n) (hr : Shape w α ω ο δ μ st' r o')
    (hne : ∀ r' o, r' ≠ r → Shape w α ω ο δ μ st r' o → Shape w α ω ο δ μ st' r' o) : Good w α ω ο δ μ (upd σ r o') st' where
  inj := by rw [hn]; exact G.inj
  lo := by rw [hn]; exact G.lo
  sh := fun x hx => by
    rw [hn] at hx
    by_cases e : x = r
    · subst e; rw [upd_self]; exact hr
    · rw [upd_ne _ _ e]; exact hne x _ e (G.sh x hx)
/-- what a dict with text keys is, written out -/
theorem dict_open {prog : Program} {w : World} {o : Obj} {kvs : List (Str × Value)} (h : o.IsDictOf (strKind prog w) kvs) :
    ∃ es n, o = dictOf es n ∧ KeysOf (strKind prog w) es.toArray ∧ Pairs (strKind prog w) es kvs ∧ (kvs.map (·.1)).Nodup ∧ ∀ name, getL name es = some (valueAt kvs name) := by
  obtain ⟨es, ep, hx, hd, hk, hp, hn⟩ := h
  obtain ⟨c, d, dt, sl⟩ := o
  obtain ⟨h1, h2, h3⟩ := hx
  dsimp only at h1 h2 h3 hd
  subst h1 h2 h3 hd
  refine ⟨es.toList, ep, rfl, by simpa using hk, hp, hn, fun name => ?_⟩
  have noref : es.toList.any (·.refKey) = false := by
    rw [List.any_eq_false]
    intro e he
    obtain ⟨k, q, _⟩ := hk e (by simpa using he)
    obtain ⟨t, q'⟩ := Value.isStrOf_shape q
    unfold DictEntry.refKey
    rw [q']; simp
  have e := hp.find name
  have q : (fun d : DictEntry => (strKind prog w).is name d.key) = fun d => d.key.isStr name := funext fun d => (isStr_of name d.key).symm
  rw [q] at e
  unfold getL
  rw [noref]
  cases hf : es.toList.find? (fun d => d.key.isStr name) with
  | none => rw [hf] at e; rw [← e]; rfl
  | some x => rw [hf] at e; rw [← e]; rfl
theorem dict_put {prog : Program} {w : World} {es : List DictEntry} {kvs : List (Str × Value)} {name : Str} {t : Tok} {v : Value} {n : Nat}
    (hk : KeysOf (strKind prog w) es.toArray) (hp : Pairs (strKind prog w) es kvs) (hn : (kvs.map (·.1)).Nodup) :
    (dictOf (putL name (PyData.keyHash w.params name) (.str name t) v es) n).IsDictOf (strKind prog w) (stored kvs name v) := by
  have hidx := hp.findIdx name
  have q : (fun d : DictEntry => (strKind prog w).is name d.key) = fun d => d.key.isStr name := funext fun d => (isStr_of name d.key).symm
  have e0 := putL_find name (PyData.keyHash w.params name) (.str name t) v es
  rw [q] at hidx
  have hkey : (strKind prog w).is name (.str name t) = true := strKind_is prog w name t
  cases hi : es.findIdx? (fun d => d.key.isStr name) with
  | some i =>
    rw [hi] at hidx e0
    dsimp only at e0
    rw [← e0]
    refine ⟨_, n, ⟨rfl, rfl, rfl⟩, rfl, ?_, ?_, ?_⟩
    · have := KeysOf.modify hk i v
      simpa using this
    · rw [stored, if_pos (any_of_findIdx_some hidx.symm)]
      have := Pairs.modify hp hn (k := name) (i := i) (by rw [q]; exact hi) v
      simpa using this
    · rw [stored, if_pos (any_of_findIdx_some hidx.symm), keys_map_store]; exact hn
  | none =>
    rw [hi] at hidx e0
    dsimp only at e0
    rw [← e0, show PyData.keyHash w.params name = (strKind prog w).hash name from rfl]
    have hnot : name ∉ kvs.map (·.1) := not_mem_of_findIdx_none hidx.symm
    have hany : ¬ (kvs.any fun kv => decide (kv.1 = name)) = true := by
      rw [List.any_eq_true]; rintro ⟨kv, hkv, he⟩
      exact hnot (List.mem_map.mpr ⟨kv, hkv, of_decide_eq_true he⟩)
    refine ⟨_, n, ⟨rfl, rfl, rfl⟩, rfl, ?_, ?_, ?_⟩
    · have := KeysOf.push hk hkey v
      simpa using this
    · rw [stored, if_neg hany]
      have := Pairs.append hp hkey ((strKind prog w).hash name) v
      simpa using this
    · rw [stored, if_neg hany, List.map_append, List.nodup_append]
      refine ⟨hn, by simp, ?_⟩
      intro a ha b hb
      simp only [List.map_cons, List.map_nil, List.mem_singleton] at hb
      subst hb
      exact fun e => hnot (e ▸ ha)
section
variable {w : World} {A : Around} {E : Value → Shared → Prop} {s : Shared} {K : Frag} {x C dx L : Addr} {h₀ : Heap} {m : Str → Option Value} {news : List (Addr × Obj)} {g : Obj → List (Addr × Obj)} {o : Obj} {kvs : List (Str × Value)} {name : Str} {v : Value}
theorem updF_toUpd (U : UpdF dx o news g) (o' : Obj) : Upd dx o o' news (g o') := by
  induction U with
  | head h => exact Upd.head h
  | tail h _ ih => exact Upd.tail h ih
theorem getA {expr : Bool} {Q : Value → Shared → Prop} {attr : Option Value} (F : Fr h₀ L s.heap m) (X₀ : K.In h₀) (N : News h₀ L s.heap news) (h1 : (x, instObj C dx) ∈ news) (h2 : (dx, o) ∈ news) (hd : o.IsDictOf (sK w) kvs)
    (hg : plainGet K C name = true) (hh : hasDictIn K C = true) (ha : findIn K (.ref C) name = some attr) (hn : noGet K attr = true) (hl : valueAt kvs name = some v) (hv : handedIn v = true)
    (h : Q v { s with toks := s.toks + 1 }) : wpAny (model PP w) A (getAttr (.ref x) name expr) Q E s := by
  obtain ⟨es, n, rfl, _, _, _, hget⟩ := dict_open hd
  exact get_own F X₀ (InstAt.of_news N h1 h2) hg hh ha hn (by rw [hget, hl]) hv h
theorem methA {pl : Sem Bool} {Q : Value × List Value → Shared → Prop} {f : Addr} (F : Fr h₀ L s.heap m) (X₀ : K.In h₀) (N : News h₀ L s.heap news) (h1 : (x, instObj C dx) ∈ news) (h2 : (dx, o) ∈ news) (hd : o.IsDictOf (sK w) kvs)
    (hg : plainGet K C name = true) (hf : findIn K (.ref C) name = some (some (.ref f))) (ht : isFn K (.ref f) = true) (hl : valueAt kvs name = none) (h : Q (.ref f, [.ref x]) s) :
    wpAny (model PP w) A (getMethod (.ref x) name pl) Q E s := by
  obtain ⟨es, n, rfl, _, _, _, hget⟩ := dict_open hd
  exact method_inst F X₀ (InstAt.of_news N h1 h2) hg hf ht (by rw [hget, hl]) h
theorem setA {Q : Unit → Shared → Prop} (F : Fr h₀ L s.heap m) (X₀ : K.In h₀) (N : News h₀ L s.heap news) (h1 : (x, instObj C dx) ∈ news) (U : UpdF dx o news g) (hd : o.IsDictOf (sK w) kvs)
    (hs : findIn K (.ref C) "__setattr__" = some (some (.builtin "object.__setattr__"))) (hp : plainOver K C = true) (ht : takerIn K C name = some none) (hh : hasDictIn K C = true) (hz : kvs.length ≤ 999)
    (h : ∀ h' o', Fr h₀ L h' m → News h₀ L h' (g o') → o'.IsDictOf (sK w) (stored kvs name v) → Q () { s with heap := h', toks := s.toks + 2 }) :
    wpAny (model PP w) A (setAttr (.ref x) name v) Q E s := by
  obtain ⟨es, n, rfl, hk, hpr, hnd, hget⟩ := dict_open hd
  have h2 : (dx, dictOf es n) ∈ news := by
    obtain ⟨pre, post, rfl, _⟩ := U.split
    simp
  have U' := updF_toUpd U (dictOf (putL name (PyData.keyHash w.params name) (.str name (s.toks + 1)) v es) (putN name es n))
  refine set_dict F X₀ N (InstAt.of_news N h1 h2) rfl hs hp ht hh (by rw [hget]; rfl) rfl U' ?_ fun h' F' N' => h h' _ F' N' (dict_put hk hpr hnd)
  have e1 := putL_find name (PyData.keyHash w.params name) (.str name (s.toks + 1)) v es
  have e2 := hpr.length
  rw [← e1]
  split
  · rw [List.length_modify]; (first | lia | omega)
  · rw [List.length_append, List.length_singleton]; (first | lia | omega)
end
section
variable {w : World} {A : Around} {E : Value → Shared → Prop} {s : Shared} {L : Addr} {h₀ : Heap} {m : Str → Option Value} {news : List (Addr × Obj)} {g : Obj → List (Addr × Obj)} {name : Str}
  {α : Role → Addr} {ω : Role → Obj} {ο δ : Nat → Addr} {μ : Role → Addr} {σ : Role → Obj} {st : St} {K : Frag}
theorem get_cyc {expr : Bool} {Q : Value → Shared → Prop} {attr : Option Value} {v : (Nat → Tok) → Value} (F : Fr h₀ L s.heap m) (X₀ : K.In h₀) (N : News h₀ L s.heap news) (hs : ∀ p ∈ ledW α ο δ μ σ st, p ∈ news) (G : Good w α ω ο δ μ σ st)
    (hg : plainGet K 346 name = true) (hh : hasDictIn K 346 = true) (ha : findIn K (.ref 346) name = some attr) (hn : noGet K attr = true)
    (hl : ∀ τ, valueAt (cycKV α μ st τ) name = some (v τ)) (hv : ∀ τ, handedIn (v τ) = true)
    (h : ∀ τ, Q (v τ) { s with toks := s.toks + 1 }) : wpAny (model PP w) A (getAttr (.ref (α .cyc)) name expr) Q E s := by
  obtain ⟨τ, hd⟩ := G.sh .cycD trivial
  have h1 : (α .cyc, instObj 346 (α .cycD)) ∈ news := by
    have := hs _ (mem_led (β := adr α ο δ μ) (σ := σ) (n := st.n) (r := .cyc) trivial)
    rwa [show σ .cyc = _ from G.sh .cyc trivial] at this
  exact getA F X₀ N h1 (hs _ (mem_led (r := .cycD) trivial)) hd hg hh ha hn (hl τ) (hv τ) (h τ)
theorem get_marks {expr : Bool} {Q : Value → Shared → Prop} {attr : Option Value} {v : (Nat → Tok) → Value} (F : Fr h₀ L s.heap m) (X₀ : K.In h₀) (N : News h₀ L s.heap news) (hs : ∀ p ∈ ledW α ο δ μ σ st, p ∈ news) (G : Good w α ω ο δ μ σ st)
    (hg : plainGet K 136 name = true) (hh : hasDictIn K 136 = true) (ha : findIn K (.ref 136) name = some attr) (hn : noGet K attr = true)
    (hl : ∀ τ, valueAt (marksKV α μ st τ) name = some (v τ)) (hv : ∀ τ, handedIn (v τ) = true)
    (h : ∀ τ, Q (v τ) { s with toks := s.toks + 1 }) : wpAny (model PP w) A (getAttr (.ref (α .marks)) name expr) Q E s := by
  obtain ⟨τ, hd⟩ := G.sh .marksD trivial
  have h1 : (α .marks, instObj 136 (α .marksD)) ∈ news := by
    have := hs _ (mem_led (β := adr α ο δ μ) (σ := σ) (n := st.n) (r := .marks) trivial)
    rwa [show σ .marks = _ from G.sh .marks trivial] at this
  exact getA F X₀ N h1 (hs _ (mem_led (r := .marksD) trivial)) hd hg hh ha hn (hl τ) (hv τ) (h τ)
theorem get_obj {expr : Bool} {Q : Value → Shared → Prop} {attr : Option Value} {i : Nat} {v : (Nat → Tok) → Value} (F : Fr h₀ L s.heap m) (X₀ : K.In h₀) (N : News h₀ L s.heap news) (hs : ∀ p ∈ ledW α ο δ μ σ st, p ∈ news) (G : Good w α ω ο δ μ σ st)
    (hi : 1 ≤ i ∧ i ≤ st.n)
    (hg : plainGet K 367 name = true) (hh : hasDictIn K 367 = true) (ha : findIn K (.ref 367) name = some attr) (hn : noGet K attr = true)
    (hl : ∀ τ, valueAt (objKV st i τ) name = some (v τ)) (hv : ∀ τ, handedIn (v τ) = true)
    (h : ∀ τ, Q (v τ) { s with toks := s.toks + 1 }) : wpAny (model PP w) A (getAttr (.ref (ο i)) name expr) Q E s := by
  obtain ⟨τ, hd⟩ := G.sh (.objD i) hi
  have h1 : (ο i, instObj 367 (δ i)) ∈ news := by
    have := hs _ (mem_led (β := adr α ο δ μ) (σ := σ) (n := st.n) (r := .obj i) hi)
    rwa [show σ (.obj i) = _ from G.sh (.obj i) hi] at this
  exact getA F X₀ N h1 (hs _ (mem_led (r := .objD i) hi)) hd hg hh ha hn (hl τ) (hv τ) (h τ)
theorem meth_cyc {pl : Sem Bool} {Q : Value × List Value → Shared → Prop} {f : Addr} (F : Fr h₀ L s.heap m) (X₀ : K.In h₀) (N : News h₀ L s.heap news) (hs : ∀ p ∈ ledW α ο δ μ σ st, p ∈ news) (G : Good w α ω ο δ μ σ st)
    (hg : plainGet K 346 name = true) (hf : findIn K (.ref 346) name = some (some (.ref f))) (ht : isFn K (.ref f) = true) (hl : ∀ τ, valueAt (cycKV α μ st τ) name = none)
    (h : Q (.ref f, [.ref (α .cyc)]) s) : wpAny (model PP w) A (getMethod (.ref (α .cyc)) name pl) Q E s := by
  obtain ⟨τ, hd⟩ := G.sh .cycD trivial
  have h1 : (α .cyc, instObj 346 (α .cycD)) ∈ news := by
    have := hs _ (mem_led (β := adr α ο δ μ) (σ := σ) (n := st.n) (r := .cyc) trivial)
    rwa [show σ .cyc = _ from G.sh .cyc trivial] at this
  exact methA F X₀ N h1 (hs _ (mem_led (r := .cycD) trivial)) hd hg hf ht (hl τ) h
theorem meth_marks {pl : Sem Bool} {Q : Value × List Value → Shared → Prop} {f : Addr} (F : Fr h₀ L s.heap m) (X₀ : K.In h₀) (N : News h₀ L s.heap news) (hs : ∀ p ∈ ledW α ο δ μ σ st, p ∈ news) (G : Good w α ω ο δ μ σ st)
    (hg : plainGet K 136 name = true) (hf : findIn K (.ref 136) name = some (some (.ref f))) (ht : isFn K (.ref f) = true) (hl : ∀ τ, valueAt (marksKV α μ st τ) name = none)
    (h : Q (.ref f, [.ref (α .marks)]) s) : wpAny (model PP w) A (getMethod (.ref (α .marks)) name pl) Q E s := by
  obtain ⟨τ, hd⟩ := G.sh .marksD trivial
  have h1 : (α .marks, instObj 136 (α .marksD)) ∈ news := by
    have := hs _ (mem_led (β := adr α ο δ μ) (σ := σ) (n := st.n) (r := .marks) trivial)
    rwa [show σ .marks = _ from G.sh .marks trivial] at this
  exact methA F X₀ N h1 (hs _ (mem_led (r := .marksD) trivial)) hd hg hf ht (hl τ) h
end
end

section
open PySem PySem.W PyProof.Rows
/-- what a marking turns -/
structure Mk (st st' : St) : Prop where
  same : SameM st st'
  old : ∀ j, 2 ≤ st.mark j → st'.mark j = st.mark j
  new : ∀ j, st.mark j < 2 → st'.mark j = st.mark j ∨ st'.mark j = 2 ∨ st'.mark j = 3
  black : ∀ j, st.mark j < 2 → st'.mark j = 3 → ∀ c ∈ st.edges j, 2 ≤ st'.mark c
  greyNew : ∀ j, st.mark j < 2 → st'.mark j = 2 → j ∈ st'.grey
  greyOld : ∀ j ∈ st.grey, j ∈ st'.grey
  greyIn : ∀ j ∈ st'.grey, j ∈ st.grey ∨ (st.mark j < 2 ∧ st'.mark j = 2)
theorem Mk.refl (st : St) : Mk st st :=
  ⟨SameM.refl st, fun _ _ => rfl, fun _ _ => .inl rfl, fun j h h' => by (first | lia | omega), fun j h h' => by (first | lia | omega), fun _ h => h, fun _ h => .inl h⟩
theorem Mk.up {a b : St} (h : Mk a b) {j : Nat} (hj : 2 ≤ a.mark j) : 2 ≤ b.mark j := by rw [h.old j hj]; exact hj
theorem Mk.trans {a b c : St} (h : Mk a b) (h' : Mk b c) : Mk a c where
  same := h.same.trans h'.same
  old := fun j hj => by rw [h'.old j (h.up hj), h.old j hj]
  new := fun j hj => by
    rcases h.new j hj with e | e | e
    · rw [← e]; exact h'.new j (by (first | lia | omega))
    · right; left; rw [h'.old j (by (first | lia | omega)), e]
    · right; right; rw [h'.old j (by (first | lia | omega)), e]
  black := fun j hj hc d hd => by
    rcases h.new j hj with e | e | e
    · exact h'.black j (by (first | lia | omega)) hc d (by rw [h.same.edges]; exact hd)
    · rw [h'.old j (by (first | lia | omega)), e] at hc; (first | lia | omega)
    · exact h'.up (h.black j hj e d hd)
  greyNew := fun j hj hc => by
    rcases h.new j hj with e | e | e
    · exact h'.greyNew j (by (first | lia | omega)) hc
    · exact h'.greyOld j (h.greyNew j hj e)
    · rw [h'.old j (by (first | lia | omega)), e] at hc; (first | lia | omega)
  greyOld := fun j hj => h'.greyOld j (h.greyOld j hj)
  greyIn := fun j hj => by
    rcases h'.greyIn j hj with h1 | ⟨h1, h2⟩
    · rcases h.greyIn j h1 with h3 | ⟨h3, h4⟩
      · exact .inl h3
      · exact .inr ⟨h3, by rw [h'.old j (by (first | lia | omega)), h4]⟩
    · refine .inr ⟨?_, h2⟩
      by_cases h3 : a.mark j < 2
      · exact h3
      · rw [h.old j (by (first | lia | omega))] at h1; (first | lia | omega)
theorem setMark_mark (st : St) (i j : Nat) (k : Int) : (st.setMark i k).mark j = if j = i then k else st.mark j := rfl
theorem setMark_self (st : St) (i : Nat) (k : Int) : (st.setMark i k).mark i = k := if_pos rfl
theorem setMark_ne (st : St) {i j : Nat} (k : Int) (h : j ≠ i) : (st.setMark i k).mark j = st.mark j := if_neg h
theorem whites_zero {st : St} {i : Nat} (h : whites st = 0) (hi : st.ok i) : ¬ st.mark i < 2 := fun hm => by
  unfold whites at h
  have : i ∈ (upTo st.n).filter fun i => decide (st.mark i < 2) := List.mem_filter.mpr ⟨mem_upTo.mpr hi, by simpa using hm⟩
  rw [List.length_eq_zero_iff.mp h] at this
  replace this := this
  cases this
theorem markF_mk : ∀ (k : Nat) (st : St) (i : Nat), Wf st → st.ok i → whites st ≤ k → Mk st (markF k st i) ∧ 2 ≤ (markF k st i).mark i
  | 0, st, i, _, hi, hk => ⟨Mk.refl st, by have := whites_zero (by (first | lia | omega)) hi; show 2 ≤ st.mark i; (first | lia | omega)⟩
  | k + 1, st, i, hw, hi, hk => by
    unfold markF
    split
    · rename_i h2
      have hlt := whites_set (k := 3) hi h2 (by (first | lia | omega))
      split
      · have fold : ∀ (l : List Nat) (a : St), Wf a → (∀ c ∈ l, a.ok c) → whites a ≤ k → Mk a (l.foldl (markF k) a) ∧ ∀ c ∈ l, 2 ≤ (l.foldl (markF k) a).mark c := fun l => by
          induction l with
          | nil => exact fun a _ _ _ => ⟨Mk.refl a, fun _ h => nomatch h⟩
          | cons x l ih =>
            intro a ha hc hka
            obtain ⟨m1, m2⟩ := markF_mk k a x ha (hc x (.head _)) hka
            obtain ⟨m3, m4⟩ := ih (markF k a x) (m1.same.wf ha) (fun c h => m1.same.ok (hc c (.tail _ h))) (Nat.le_trans (markF_whites k a x) hka)
            refine ⟨m1.trans m3, fun c h => ?_⟩
            rcases List.mem_cons.mp h with rfl | h
            · exact m3.up m2
            · exact m4 c h
        obtain ⟨m1, m2⟩ := fold (st.edges i) (st.setMark i 3) ((SameM.setMark st i 3).wf hw) (fun c hc => hw.edge i hi c hc) (by (first | lia | omega))
        generalize (st.edges i).foldl (markF k) (st.setMark i 3) = b at m1 m2 ⊢
        have mi : b.mark i = 3 := by rw [m1.old i (by rw [setMark_self]; (first | lia | omega)), setMark_self]
        refine ⟨⟨(SameM.setMark st i 3).trans m1.same, ?_, ?_, ?_, ?_, m1.greyOld, ?_⟩, by (first | lia | omega)⟩
        · intro j hj
          have hne : j ≠ i := by rintro rfl; (first | lia | omega)
          rw [m1.old j (by rw [setMark_ne _ _ hne]; exact hj), setMark_ne _ _ hne]
        · intro j hj
          by_cases hne : j = i
          · subst hne; exact .inr (.inr mi)
          · have := m1.new j (by rw [setMark_ne _ _ hne]; exact hj)
            rwa [setMark_ne _ _ hne] at this
        · intro j hj h3 c hc
          by_cases hne : j = i
          · subst hne; exact m2 c hc
          · exact m1.black j (by rw [setMark_ne _ _ hne]; exact hj) h3 c hc
        · intro j hj h3
          by_cases hne : j = i
          · subst hne; (first | lia | omega)
          · exact m1.greyNew j (by rw [setMark_ne _ _ hne]; exact hj) h3
        · intro j hj
          rcases m1.greyIn j hj with h1 | ⟨h1, h3⟩
          · exact .inl h1
          · refine .inr ⟨?_, h3⟩
            by_cases hne : j = i
            · subst hne; exact h2
            · rwa [setMark_ne _ _ hne] at h1
      · have em : ∀ j, ({ st.setMark i 2 with grey := st.grey ++ [i] } : St).mark j = if j = i then 2 else st.mark j := fun _ => rfl
        refine ⟨⟨rfl, ?_, ?_, ?_, ?_, fun j hj => List.mem_append_left _ hj, ?_⟩, ?_⟩
        · intro j hj
          rw [em, if_neg (by rintro rfl; (first | lia | omega))]
        · intro j hj
          rw [em]; split
          · exact .inr (.inl rfl)
          · exact .inl rfl
        · intro j hj h3; rw [em] at h3; split at h3 <;> (first | lia | omega)
        · intro j hj h3
          rw [em] at h3; split at h3
          · rename_i e; subst e; exact List.mem_append_right _ (.head _)
          · (first | lia | omega)
        · intro j hj
          rcases List.mem_append.mp hj with hj | hj
          · exact .inl hj
          · rw [List.mem_singleton.mp hj]
            exact .inr ⟨h2, by rw [em, if_pos rfl]⟩
        · rw [em, if_pos rfl]; (first | lia | omega)
    · exact ⟨Mk.refl st, by (first | lia | omega)⟩
theorem foldF_mk (k : Nat) : ∀ (l : List Nat) (a : St), Wf a → (∀ c ∈ l, a.ok c) → whites a ≤ k → Mk a (l.foldl (markF k) a) ∧ ∀ c ∈ l, 2 ≤ (l.foldl (markF k) a).mark c := fun l => by
  induction l with
  | nil => exact fun a _ _ _ => ⟨Mk.refl a, fun _ h => nomatch h⟩
  | cons x l ih =>
    intro a ha hc hka
    obtain ⟨m1, m2⟩ := markF_mk k a x ha (hc x (.head _)) hka
    obtain ⟨m3, m4⟩ := ih (markF k a x) (m1.same.wf ha) (fun c h => m1.same.ok (hc c (.tail _ h))) (Nat.le_trans (markF_whites k a x) hka)
    refine ⟨m1.trans m3, fun c h => ?_⟩
    rcases List.mem_cons.mp h with rfl | h
    · exact m3.up m2
    · exact m4 c h
theorem markAll_mk {a : St} {l : List Nat} (h : Wf a) (hl : ∀ c ∈ l, a.ok c) : Mk a (markAll a l) ∧ ∀ c ∈ l, 2 ≤ (markAll a l).mark c :=
  foldF_mk 20 l a h hl (by have := whites_le a; have := h.small; (first | lia | omega))
/-- new marks lie within whatever is closed -/
noncomputable def NewIn (P : Nat → Prop) (st st' : St) : Prop := ∀ j, st.mark j < 2 → 2 ≤ st'.mark j → P j
theorem NewIn.refl {P : Nat → Prop} (st : St) : NewIn P st st := fun j h h' => by (first | lia | omega)
theorem NewIn.trans {P : Nat → Prop} {a b c : St} (h : NewIn P a b) (h' : NewIn P b c) : NewIn P a c := fun j h1 h2 => by
  by_cases h3 : b.mark j < 2
  · exact h' j h3 h2
  · exact h j h1 (by (first | lia | omega))
theorem markF_in {P : Nat → Prop} : ∀ (k : Nat) (st : St) (i : Nat), (∀ j, P j → ∀ c ∈ st.edges j, P c) → P i → NewIn P st (markF k st i)
  | 0, st, i, _, _ => NewIn.refl st
  | k + 1, st, i, hP, hi => by
    unfold markF
    split
    · split
      · have fold : ∀ (l : List Nat) (a : St), a.edges = st.edges → (∀ c ∈ l, P c) → NewIn P a (l.foldl (markF k) a) := fun l => by
          induction l with
          | nil => exact fun a _ _ => NewIn.refl a
          | cons x l ih =>
            intro a ha hc
            refine (markF_in k a x (by rw [ha]; exact hP) (hc x (.head _))).trans (ih (markF k a x) ?_ fun c h => hc c (.tail _ h))
            rw [(markF_same k a x).edges, ha]
        have h1 := fold (st.edges i) (st.setMark i 3) rfl (hP i hi)
        intro j h2 h3
        by_cases hne : j = i
        · subst hne; exact hi
        · exact h1 j (by rw [setMark_ne _ _ hne]; exact h2) h3
      · intro j h2 h3
        by_cases hne : j = i
        · subst hne; exact hi
        · have : ({ st.setMark i 2 with grey := st.grey ++ [i] } : St).mark j = st.mark j := if_neg hne
          rw [this] at h3; (first | lia | omega)
    · exact NewIn.refl st
theorem markAll_in {P : Nat → Prop} : ∀ (l : List Nat) (a : St), (∀ j, P j → ∀ c ∈ a.edges j, P c) → (∀ c ∈ l, P c) → NewIn P a (markAll a l) := fun l => by
  unfold markAll
  induction l with
  | nil => exact fun a _ _ => NewIn.refl a
  | cons x l ih =>
    intro a ha hc
    refine (markF_in 20 a x ha (hc x (.head _))).trans (ih (markF 20 a x) ?_ fun c h => hc c (.tail _ h))
    rw [(markF_same 20 a x).edges]; exact ha
end

section
open PySem PySem.W PySem.Calls PyProof.Rows
/-- a frame's first names -/
noncomputable def bindM : List Str → List Value → Str → Option Value
  | n :: ns, v :: vs => fun y => if y = n then some v else bindM ns vs y
  | _, _ => fun _ => none
theorem bindM_lookup (y : Str) : ∀ (ns : List Str) (vs : List Value), ((ns.zip vs).lookup y) = bindM ns vs y
  | [], _ => rfl
  | _ :: _, [] => rfl
  | n :: ns, v :: vs => by
    rw [List.zip_cons_cons, List.lookup_cons, bindM]
    by_cases h : y = n
    · subst h; simp
    · have : (y == n) = false := by simpa using h
      simp only [this, if_neg h]
      exact bindM_lookup y ns vs
theorem lookup_rev {y : Str} : ∀ {l : List (Str × Value)}, (l.map (·.1)).Nodup → l.reverse.lookup y = l.lookup y
  | [], _ => rfl
  | p :: l, h => by
    obtain ⟨a, v⟩ := p
    rw [List.map_cons, List.nodup_cons] at h
    have app : ∀ (l1 l2 : List (Str × Value)), (l1 ++ l2).lookup y = (l1.lookup y).or (l2.lookup y) := by
      intro l1 l2
      induction l1 with
      | nil => rfl
      | cons q r ih => obtain ⟨b, u⟩ := q; rw [List.cons_append, List.lookup_cons, List.lookup_cons]; split <;> simp_all
    rw [List.reverse_cons, app, lookup_rev h.2, List.lookup_cons]
    by_cases e : y = a
    · subst e
      have : l.lookup y = none := by
        cases hq : l.lookup y with
        | none => rfl
        | some u =>
          have key : ∀ (l : List (Str × Value)), l.lookup y = some u → y ∈ l.map (·.1) := by
            intro l
            induction l with
            | nil => intro h; cases h
            | cons q r ih =>
              obtain ⟨b, z⟩ := q
              intro h
              rw [List.lookup_cons] at h
              by_cases e : y = b
              · subst e; simp
              · have : (y == b) = false := by simpa using e
                rw [this] at h
                exact .tail _ (ih h)
          exact absurd (key l hq) h.1
      rw [this]; simp
    · have : (y == a) = false := by simpa using e
      simp [List.lookup_cons, this]
theorem map_zip (ns : List Str) (vs : List Value) (h : ns.length = vs.length) : ((ns.zip vs).map (·.1)) = ns := by
  rw [List.map_fst_zip]; (first | lia | omega)
noncomputable def Kept (h : Heap) (news : List (Addr × Obj)) (h' : Heap) (news' : List (Addr × Obj)) : Prop :=
  (∀ b o, h.get? b = some o → b ∉ news.map (·.1) → h'.get? b = some o) ∧ ∀ p ∈ news', p.1 ∈ news.map (·.1) ∨ h.get? p.1 = none
noncomputable def Runs (w : World) (f : Addr) (args : List Value) (D U : Nat) (news : List (Addr × Obj)) (Post : Value → List (Addr × Obj) → Prop) : Prop :=
  ∀ (p : Program) (loose : List Str) (mean : ExcName → Option Value) (mg mb : Str → Option Value) (A : Around) (env : Env) (outer : List Env) (A₀ : Around) (base h₀ : Heap) (L : Addr) (m : Str → Option Value) (s : Shared) (R : Result → Shared → Prop),
    Below A₀ base outer h₀ → Fr h₀ L s.heap m → (hd0.heap_1 w.params).In h₀ → News h₀ L s.heap news → Top p loose mean mg mb h₀ → A.frames = some (env :: outer) → env.frame = some L → env.scope.kind = .function → A.handled = none →
    A.depth + D < recursionLimit → A.units + U < cLine →
    (∀ r news' h' tk', Fr h₀ L h' m → News h₀ L h' news' → Kept s.heap news h' news' → Post r news' → R (.ok (.ret r)) { s with heap := h', toks := tk' }) →
    codeAny (model PP w) A (.call (.ref f) ⟨args, []⟩) R s
noncomputable def Done (g : Heap) (L' : Addr) (gens : Array GenState) (drawn : Drawn) (os : OsState) (Post : Value → List (Addr × Obj) → Prop) (v : Value) (s' : Shared) : Prop :=
  ∃ h' tk' m' news', s' = ⟨h', gens, drawn, tk', os⟩ ∧ Fr g L' h' m' ∧ News g L' h' news' ∧ Post v news'
theorem Done.intro {g h' : Heap} {L' : Addr} {gens : Array GenState} {drawn : Drawn} {os : OsState} {Post : Value → List (Addr × Obj) → Prop} {v : Value} {tk' : Nat} {m' : Str → Option Value} {news' : List (Addr × Obj)}
    (F : Fr g L' h' m') (N : News g L' h' news') (h : Post v news') : Done g L' gens drawn os Post v ⟨h', gens, drawn, tk', os⟩ := ⟨h', tk', m', news', rfl, F, N, h⟩
theorem News.sub {h₀ h : Heap} {L : Addr} {l l' : List (Addr × Obj)} (N : News h₀ L h l') (hs : ∀ p ∈ l, p ∈ l') : News h₀ L h l := fun p hp => N p (hs p hp)
theorem runs_of {w : World} {f : Addr} {args : List Value} {D U : Nat} {news : List (Addr × Obj)} {Post : Value → List (Addr × Obj) → Prop} {name qual : Str} {params : Arguments} {body : List Stmt} {scope : Scope} {dV kV doc pm cdv ct oc : Value} {an od : Option Addr} {osl : Array (Option Value)} {names : List Str}
    (ho : (hd0.heap_1 w.params).lookup f = some ⟨oc, od, .func (fnOf name qual params body scope dV kV doc pm an cdv ct), osl⟩) (hcd : codeIn (hd0.heap_1 w.params) cdv qual = true)
    (hnm : params.args.map (·.arg) = names) (hlen : names.length = args.length) (hnd : names.Nodup)
    (hbind : ∀ s, BindsTo s (fnOf name qual params body scope dV kV doc pm an cdv ct) ⟨args, []⟩ (names.zip args)) (hloc : ∀ y ∈ names.zip args, scope.names.lookup y.1 = some .local)
    (hco : scope.isCoroutine = false) (hgen : scope.isGenerator = false) (hk : scope.kind = .function) (hcell : ∀ x ∈ scope.names, x.2 ≠ .cell)
    (h : ∀ (p : Program) (loose : List Str) (mean : ExcName → Option Value) (mg mb : Str → Option Value) (dp un : Nat) (gd : Option (List Code)) (outer : List Env) (A₀ : Around) (base g : Heap) (L : Addr) (h₁ : Heap) (gens : Array GenState) (drawn : Drawn) (tk : Nat) (os : OsState),
      Below A₀ base outer g → Fr g L h₁ (bindM names args) → (hd0.heap_1 w.params).In g → News g L h₁ news → Top p loose mean mg mb g → dp + D ≤ recursionLimit → un + U < cLine + 3 →
      wpAny (model PP w) (ktrTop dp un gd qual scope L f cdv [] outer) (execs body (envX qual scope L f cdv [])) (fun fl s' => Done g L gens drawn os Post (match fl with | .ret v => v | _ => .none) s') (fun _ _ => False) ⟨h₁, gens, drawn, tk, os⟩) :
    Runs w f args D U news Post := by
  intro p loose mean mg mb A env outer A₀ base h₀ L m s R B F X N T hA hf hke hh hd hu k
  obtain ⟨Ah, Ad, Af, Ag, Au⟩ := A
  dsimp only at hA hh hd hu
  subst hA hh
  refine code_defG B F X N T rfl hf hke ho hcd (by show Ad < recursionLimit; (first | lia | omega)) (hbind s) hloc (fun g L' h₁ FG F' N' B' X' T' kG => ?_) hco hgen hk hcell
  obtain ⟨sh, sg, sd, st, so⟩ := s
  have eF : (fun y => (names.zip args).reverse.lookup y) = bindM names args := funext fun y => by
    rw [lookup_rev (by rw [map_zip _ _ hlen]; exact hnd), bindM_lookup]
  rw [eF] at F'
  refine wpAny_mono (h p loose mean mg mb (Ad + 1) (Au + 3) Ag (env :: outer) _ base g L' h₁ sg sd _ so B' F' X' N' T' (by (first | lia | omega)) (by (first | lia | omega))) (fun fl s' hD => ?_) (fun _ _ e => e.elim)
  obtain ⟨h', tk', m', news', rfl, F₂, N₂, hP⟩ := hD
  refine leaveK_ F₂ N₂ fun F₃ N₃ => k _ news' h' tk' F₃ N₃ ⟨fun b o e hb => F₂.keep b o (kG b o e hb), fun q hq => ?_⟩ hP
  by_cases hb : q.1 ∈ news.map (·.1)
  · exact .inl hb
  · right
    cases hx : sh.get? q.1 with
    | none => rfl
    | some o =>
      have := kG _ _ hx hb
      rw [(N₂ q hq).2.2] at this; cases this
theorem Runs.call {w : World} {f : Addr} {args : List Value} {D U : Nat} {news : List (Addr × Obj)} {Post : Value → List (Addr × Obj) → Prop} (H : Runs w f args D U news Post)
    {p : Program} {loose : List Str} {mean : ExcName → Option Value} {mg mb : Str → Option Value} {A : Around} {env : Env} {outer : List Env} {A₀ : Around} {base h₀ : Heap} {L : Addr} {m : Str → Option Value} {s : Shared} {Q E : Value → Shared → Prop}
    (B : Below A₀ base outer h₀) (F : Fr h₀ L s.heap m) (X : (hd0.heap_1 w.params).In h₀) (N : News h₀ L s.heap news) (T : Top p loose mean mg mb h₀) (hA : A.frames = some (env :: outer)) (hf : env.frame = some L) (hk : env.scope.kind = .function) (hh : A.handled = none)
    (hd : A.depth + D < recursionLimit) (hu : A.units + U < cLine)
    (k : ∀ r news' h' tk', Fr h₀ L h' m → News h₀ L h' news' → Kept s.heap news h' news' → Post r news' → Q r { s with heap := h', toks := tk' }) :
    wpAny (model PP w) A (call (.ref f) args) Q E s :=
  wpAny_call (H p loose mean mg mb A env outer A₀ base h₀ L m s _ B F X N T hA hf hk hh hd hu fun r news' h' tk' F' N' kp hP => k r news' h' tk' F' N' kp hP)
/-- the temps are off the world -/
noncomputable def Off (tmp l : List (Addr × Obj)) : Prop := ∀ p ∈ tmp, p.1 ∉ l.map (·.1)
theorem News.after {h₀ h h' : Heap} {L : Addr} {tmp l l' : List (Addr × Obj)} (N : News h₀ L h tmp) (hoff : Off tmp l) (kp : Kept h l h' l') (N' : News h₀ L h' l') : News h₀ L h' (tmp ++ l') ∧ Off tmp l' := by
  refine ⟨fun p hp => ?_, fun p hp hq => ?_⟩
  · rcases List.mem_append.mp hp with hp | hp
    · exact ⟨kp.1 _ _ (N p hp).1 (hoff p hp), (N p hp).2⟩
    · exact N' p hp
  · obtain ⟨q, hq, e⟩ := List.mem_map.mp hq
    rcases kp.2 q hq with h1 | h1
    · exact hoff p hp (e ▸ h1)
    · rw [e, (N p hp).1] at h1; cases h1
/-- what a function that works on the world leaves -/
noncomputable def PostW (w : World) (α : Role → Addr) (ω : Role → Obj) (ο δ : Nat → Addr) (P : Value → (Role → Addr) → St → Prop) (v : Value) (news' : List (Addr × Obj)) : Prop :=
  ∃ μ' σ' st', news' = led (adr α ο δ μ') σ' st'.n ∧ Good w α ω ο δ μ' σ' st' ∧ P v μ' st'
end

section
open PySem PySem.W PyProof.Rows
/-- only marks, what waits and what is looked at again have turned -/
noncomputable def SameA (st st' : St) : Prop := st' = { st with mark := st'.mark, grey := st'.grey, again := st'.again }
theorem SameA.refl (st : St) : SameA st st := rfl
theorem SameA.trans {a b c : St} (h : SameA a b) (h' : SameA b c) : SameA a c := by
  unfold SameA at *; rw [h', h]
theorem SameM.a {st st' : St} (h : SameM st st') : SameA st st' := by
  unfold SameM at h; unfold SameA; rw [h]
theorem SameA.n {st st' : St} (h : SameA st st') : st'.n = st.n := by rw [h]
theorem SameA.sort {st st' : St} (h : SameA st st') : st'.sort = st.sort := by rw [h]
theorem SameA.size {st st' : St} (h : SameA st st') : st'.size = st.size := by rw [h]
theorem SameA.edges {st st' : St} (h : SameA st st') : st'.edges = st.edges := by rw [h]
theorem SameA.live {st st' : St} (h : SameA st st') : st'.live = st.live := by rw [h]
theorem SameA.freed {st st' : St} (h : SameA st st') : st'.freed = st.freed := by rw [h]
theorem SameA.roots {st st' : St} (h : SameA st st') : st'.roots = st.roots := by rw [h]
theorem SameA.sweep {st st' : St} (h : SameA st st') : st'.sweep = st.sweep := by rw [h]
theorem SameA.white {st st' : St} (h : SameA st st') : st'.white = st.white := by rw [h]
theorem SameA.phase {st st' : St} (h : SameA st st') : st'.phase = st.phase := by rw [h]
theorem SameA.total {st st' : St} (h : SameA st st') : st'.total = st.total := by rw [h]
theorem SameA.est {st st' : St} (h : SameA st st') : st'.est = st.est := by rw [h]
theorem SameA.cycles {st st' : St} (h : SameA st st') : st'.cycles = st.cycles := by rw [h]
theorem SameA.turn {st st' : St} (h : SameA st st') : st'.turn = st.turn := by rw [h]
theorem SameA.cells {st st' : St} (h : SameA st st') : st'.cells = st.cells := by rw [h]
theorem SameA.ok {st st' : St} (h : SameA st st') (i : Nat) : st'.ok i ↔ st.ok i := by unfold St.ok; rw [h.n]
theorem SameA.wf {st st' : St} (h : SameA st st') (w : Wf st) : Wf st' := by
  rw [h]; exact ⟨w.small, w.sort, w.size, w.edge, w.elen⟩
theorem sub_len : ∀ {F L : List Nat}, F.Nodup → (∀ x ∈ F, x ∈ L) → F.length ≤ L.length
  | [], _, _, _ => Nat.zero_le _
  | a :: F, L, nd, h => by
    have nd' := List.nodup_cons.mp nd
    have h1 := sub_len (L := L.erase a) nd'.2 fun x hx => (List.mem_erase_of_ne (fun e : x = a => nd'.1 (by rw [← e]; exact hx))).mpr (h x (.tail _ hx))
    have h2 := h a (.head _)
    rw [List.length_erase_of_mem h2] at h1
    replace h1 := h1
    have h3 := List.length_pos_of_mem h2
    rw [List.length_cons]; (first | lia | omega)
theorem markF_nd : ∀ (k : Nat) (st : St) (i : Nat), (∀ j ∈ st.grey, 2 ≤ st.mark j) → st.grey.Nodup → (∀ j ∈ (markF k st i).grey, 2 ≤ (markF k st i).mark j) ∧ (markF k st i).grey.Nodup
  | 0, _, _, h, h' => ⟨h, h'⟩
  | k + 1, st, i, h, h' => by
    unfold markF
    split
    · rename_i hm
      split
      · have fold : ∀ (l : List Nat) (a : St), (∀ j ∈ a.grey, 2 ≤ a.mark j) → a.grey.Nodup → (∀ j ∈ (l.foldl (markF k) a).grey, 2 ≤ (l.foldl (markF k) a).mark j) ∧ (l.foldl (markF k) a).grey.Nodup := fun l => by
          induction l with
          | nil => exact fun a h h' => ⟨h, h'⟩
          | cons x l ih =>
            intro a h h'
            obtain ⟨h1, h2⟩ := markF_nd k a x h h'
            exact ih _ h1 h2
        refine fold _ _ (fun j hj => ?_) h'
        rw [setMark_mark]
        split
        · (first | lia | omega)
        · exact h j hj
      · refine ⟨fun j hj => ?_, ?_⟩
        · show 2 ≤ (if j = i then (2 : Int) else st.mark j)
          split
          · (first | lia | omega)
          · rcases List.mem_append.mp hj with hj | hj
            · exact h j hj
            · rename_i hne; exact absurd (List.mem_singleton.mp hj) hne
        · show (st.grey ++ [i]).Nodup
          rw [List.nodup_append]
          exact ⟨h', by simp, fun a ha b hb e => by
            rw [List.mem_singleton.mp hb] at e
            replace e := e
            have := h a ha
            rw [e] at this; (first | lia | omega)⟩
    · exact ⟨h, h'⟩
theorem markAll_nd : ∀ (l : List Nat) (a : St), (∀ j ∈ a.grey, 2 ≤ a.mark j) → a.grey.Nodup → (∀ j ∈ (markAll a l).grey, 2 ≤ (markAll a l).mark j) ∧ (markAll a l).grey.Nodup := fun l => by
  unfold markAll
  induction l with
  | nil => exact fun a h h' => ⟨h, h'⟩
  | cons x l ih =>
    intro a h h'
    obtain ⟨h1, h2⟩ := markF_nd 20 a x h h'
    exact ih _ h1 h2
/-- what one propagate turns -/
structure Pr (st : St) (l : List Nat) (i : Nat) (st' : St) : Prop where
  same : SameA st st'
  self : st'.mark i = if st.sort i = 3 then 2 else 3
  old : ∀ j, j ≠ i → 2 ≤ st.mark j → st'.mark j = st.mark j
  new : ∀ j, j ≠ i → st.mark j < 2 → st'.mark j = st.mark j ∨ st'.mark j = 2 ∨ st'.mark j = 3
  black : ∀ j, j ≠ i → st.mark j < 2 → st'.mark j = 3 → ∀ c ∈ st.edges j, 2 ≤ st'.mark c
  kids : ∀ c ∈ st.edges i, 2 ≤ st'.mark c
  greyNew : ∀ j, j ≠ i → st.mark j < 2 → st'.mark j = 2 → j ∈ st'.grey
  greyOld : ∀ j ∈ l, j ∈ st'.grey
  greyIn : ∀ j ∈ st'.grey, j ∈ l ∨ (j ≠ i ∧ st.mark j < 2 ∧ st'.mark j = 2)
  greyNd : l.Nodup → (∀ j ∈ l, 2 ≤ st.mark j) → st'.grey.Nodup
  again : st'.again = if st.sort i = 3 then st.again ++ [i] else st.again
  sum : whites st' + st'.grey.length + 1 ≤ whites st + st.grey.length
theorem propPre_mark (st : St) (l : List Nat) (i j : Nat) : (propPre st l i).mark j = if j = i then (if st.sort i = 3 then 2 else 3) else st.mark j := by
  unfold propPre
  split <;> rfl
theorem propPre_grey (st : St) (l : List Nat) (i : Nat) : (propPre st l i).grey = l := by
  unfold propPre; split <;> rfl
theorem propPre_again (st : St) (l : List Nat) (i : Nat) : (propPre st l i).again = if st.sort i = 3 then st.again ++ [i] else st.again := by
  unfold propPre; split <;> rfl
theorem propPre_same (st : St) (l : List Nat) (i : Nat) : SameA st (propPre st l i) := by
  unfold propPre SameA; split <;> rfl
theorem propAt_pr {st : St} {l : List Nat} {i : Nat} (h : Wg st) (hg : st.grey = l ++ [i]) : Pr st l i (propAt st l i) := by
  obtain ⟨h1, he, hn, hs⟩ := propPre_wg h hg
  have hi : st.ok i := h.grey i (by rw [hg]; simp)
  have hl : ∀ c ∈ st.edges i, (propPre st l i).ok c := fun c hc => by
    have := h.wf.edge i hi c hc
    unfold St.ok at this ⊢; rw [hn]; exact this
  obtain ⟨m1, m2⟩ := markAll_mk h1.wf hl
  have hsum := (propAt_wg h hg).2
  have hnd := markAll_nd (st.edges i) (propPre st l i)
  rw [← propAt_eq] at m1 m2 hnd
  replace m1 := m1
  replace m2 := m2
  replace hnd := hnd
  have hM := propPre_mark st l i
  have ha : (propAt st l i).again = (propPre st l i).again := SameM.again m1.same
  generalize propAt st l i = b at m1 m2 hsum hnd ha ⊢
  have hv : (2 : Int) ≤ (if st.sort i = 3 then 2 else 3) := by split <;> (first | lia | omega)
  refine ⟨(propPre_same st l i).trans m1.same.a, ?_, ?_, ?_, ?_, m2, ?_, ?_, ?_, ?_, ?_, hsum⟩
  · rw [m1.old i (by rw [hM, if_pos rfl]; exact hv), hM, if_pos rfl]
  · intro j hne hj
    rw [m1.old j (by rw [hM, if_neg hne]; exact hj), hM, if_neg hne]
  · intro j hne hj
    have := m1.new j (by rw [hM, if_neg hne]; exact hj)
    rwa [hM, if_neg hne] at this
  · intro j hne hj h3 c hc
    exact m1.black j (by rw [hM, if_neg hne]; exact hj) h3 c (by rw [he]; exact hc)
  · intro j hne hj h2
    exact m1.greyNew j (by rw [hM, if_neg hne]; exact hj) h2
  · intro j hj
    exact m1.greyOld j (by rw [propPre_grey]; exact hj)
  · intro j hj
    rcases m1.greyIn j hj with h2 | ⟨h2, h3⟩
    · rw [propPre_grey] at h2; exact .inl h2
    · by_cases hne : j = i
      · subst hne; rw [hM, if_pos rfl] at h2; (first | lia | omega)
      · rw [hM, if_neg hne] at h2; exact .inr ⟨hne, h2, h3⟩
  · intro hnl hml
    refine (hnd ?_ ?_).2
    · intro j hj
      rw [propPre_grey] at hj
      replace hj := hj
      rw [hM]; split
      · exact hv
      · exact hml j hj
    · rw [propPre_grey]; exact hnl
  · rw [ha, propPre_again]
theorem Pr.up {st : St} {l : List Nat} {i : Nat} {st' : St} (h : Pr st l i st') {j : Nat} (hj : 2 ≤ st.mark j) : 2 ≤ st'.mark j := by
  by_cases hne : j = i
  · subst hne; rw [h.self]; split <;> (first | lia | omega)
  · rw [h.old j hne hj]; exact hj
/-- induction over a propagate_all -/
theorem propAllF_ind {I : St → Prop} (step : ∀ st l i, I st → Wg st → st.grey = l ++ [i] → I (propAt st l i)) : ∀ (k : Nat) (st : St), I st → Wg st → I (propAllF k st)
  | 0, _, h, _ => h
  | k + 1, st, h, hw => by
    rw [propAllF]
    cases hl : st.grey.getLast? with
    | none => exact h
    | some i =>
      have hg := last_split hl
      exact propAllF_ind step k _ (step st _ i h hw hg) (propAt_wg hw hg).1
theorem propAll_ind {I : St → Prop} {st : St} (step : ∀ st l i, I st → Wg st → st.grey = l ++ [i] → I (propAt st l i)) (h : I st) (hw : Wg st) : I (propAll st) := propAllF_ind step _ st h hw
/-- marking's own invariant: black ones lead to none that is white; grey ones wait -/
structure Tri (st : St) : Prop where
  b : ∀ i, st.mark i = 3 → st.ok i → ∀ c ∈ st.edges i, 2 ≤ st.mark c
  g : ∀ i, st.mark i = 2 → st.ok i → i ∈ st.grey ∨ i ∈ st.again
/-- the weaker one of the last turn -/
noncomputable def Tri2 (st : St) : Prop := ∀ i, (st.mark i = 2 ∨ st.mark i = 3) → st.ok i → i ∈ st.grey ∨ ∀ c ∈ st.edges i, 2 ≤ st.mark c
theorem Tri.prop (st : St) (l : List Nat) (i : Nat) (h : Tri st) (hw : Wg st) (hg : st.grey = l ++ [i]) : Tri (propAt st l i) := by
  have p := propAt_pr hw hg
  generalize propAt st l i = b at p
  refine ⟨fun j hj hok c hc => ?_, fun j hj hok => ?_⟩
  · rw [p.same.edges] at hc
    replace hc := hc
    rw [p.same.ok] at hok
    replace hok := hok
    by_cases hne : j = i
    · subst hne; exact p.kids c hc
    · by_cases h2 : st.mark j < 2
      · exact p.black j hne h2 hj c hc
      · rw [p.old j hne (by (first | lia | omega))] at hj
        replace hj := hj
        exact p.up (h.b j hj hok c hc)
  · rw [p.same.ok] at hok
    replace hok := hok
    by_cases hne : j = i
    · subst hne
      right
      rw [p.again]
      rw [p.self] at hj
      replace hj := hj
      split at hj
      · rename_i h3; rw [if_pos h3]; simp
      · (first | lia | omega)
    · by_cases h2 : st.mark j < 2
      · exact .inl (p.greyNew j hne h2 hj)
      · rw [p.old j hne (by (first | lia | omega))] at hj
        replace hj := hj
        rcases h.g j hj hok with h3 | h3
        · rw [hg] at h3
          replace h3 := h3
          rcases List.mem_append.mp h3 with h3 | h3
          · exact .inl (p.greyOld j h3)
          · exact absurd (List.mem_singleton.mp h3) hne
        · right; rw [p.again]; split
          · exact List.mem_append_left _ h3
          · exact h3
theorem Tri2.prop (st : St) (l : List Nat) (i : Nat) (h : Tri2 st) (hw : Wg st) (hg : st.grey = l ++ [i]) : Tri2 (propAt st l i) := by
  have p := propAt_pr hw hg
  generalize propAt st l i = b at p
  intro j hj hok
  rw [p.same.ok] at hok
  replace hok := hok
  rw [p.same.edges]
  by_cases hne : j = i
  · subst hne; exact .inr p.kids
  · by_cases h2 : st.mark j < 2
    · rcases hj with hj | hj
      · exact .inl (p.greyNew j hne h2 hj)
      · exact .inr (p.black j hne h2 hj)
    · rw [p.old j hne (by (first | lia | omega))] at hj
      replace hj := hj
      rcases h j hj hok with h3 | h3
      · rw [hg] at h3
        replace h3 := h3
        rcases List.mem_append.mp h3 with h3 | h3
        · exact .inl (p.greyOld j h3)
        · exact absurd (List.mem_singleton.mp h3) hne
      · exact .inr fun c hc => p.up (h3 c hc)
theorem Tri.mk_ {a b : St} (h : Tri a) (m : Mk a b) (hag : b.again = a.again) : Tri b := by
  refine ⟨fun j hj hok c hc => ?_, fun j hj hok => ?_⟩
  · rw [m.same.edges] at hc
    replace hc := hc
    rw [m.same.okIff] at hok
    replace hok := hok
    by_cases h2 : a.mark j < 2
    · exact m.black j h2 hj c hc
    · rw [m.old j (by (first | lia | omega))] at hj
      replace hj := hj
      exact m.up (h.b j hj hok c hc)
  · rw [m.same.okIff] at hok
    replace hok := hok
    by_cases h2 : a.mark j < 2
    · exact .inl (m.greyNew j h2 hj)
    · rw [m.old j (by (first | lia | omega))] at hj
      replace hj := hj
      rcases h.g j hj hok with h3 | h3
      · exact .inl (m.greyOld j h3)
      · exact .inr (by rw [hag]; exact h3)
/-- what has turned since a -/
structure Sd (a b : St) : Prop where
  same : SameA a b
  four : ∀ j, 4 ≤ a.mark j → b.mark j = a.mark j
  range : ∀ j, (a.mark j = 2 ∨ a.mark j = 3) → b.mark j = 2 ∨ b.mark j = 3
  new : ∀ j, a.mark j < 2 → b.mark j = a.mark j ∨ b.mark j = 2 ∨ b.mark j = 3
  gr : ∀ j ∈ b.grey, a.mark j < 4
  ag : ∀ j ∈ b.again, a.mark j < 4
theorem Sd.refl {a : St} (hg : ∀ j ∈ a.grey, a.mark j < 4) (ha : ∀ j ∈ a.again, a.mark j < 4) : Sd a a :=
  ⟨SameA.refl a, fun _ _ => rfl, fun _ h => h, fun _ _ => .inl rfl, hg, ha⟩
theorem Sd.low {a b : St} (h : Sd a b) {j : Nat} (hj : b.mark j < 2) : a.mark j < 2 := by
  by_cases h1 : a.mark j < 2
  · exact h1
  · by_cases h2 : 4 ≤ a.mark j
    · rw [h.four j h2] at hj; (first | lia | omega)
    · have := h.range j (by (first | lia | omega)); (first | lia | omega)
theorem Sd.up {a b : St} (h : Sd a b) {j : Nat} (hj : 2 ≤ a.mark j) : 2 ≤ b.mark j := by
  by_cases h2 : b.mark j < 2
  · have := h.low h2; (first | lia | omega)
  · (first | lia | omega)
theorem Sd.prop {a : St} (st : St) (l : List Nat) (i : Nat) (h : Sd a st) (hw : Wg st) (hg : st.grey = l ++ [i]) : Sd a (propAt st l i) := by
  have p := propAt_pr hw hg
  generalize propAt st l i = b at p
  have hi : a.mark i < 4 := h.gr i (by rw [hg]; simp)
  have hself : b.mark i = 2 ∨ b.mark i = 3 := by rw [p.self]; split <;> simp
  refine ⟨h.same.trans p.same, fun j hj => ?_, fun j hj => ?_, fun j hj => ?_, fun j hj => ?_, fun j hj => ?_⟩
  · have hne : j ≠ i := by rintro rfl; (first | lia | omega)
    have e := h.four j hj
    rw [p.old j hne (by (first | lia | omega)), e]
  · by_cases hne : j = i
    · subst hne; exact hself
    · have e := h.range j hj
      rw [p.old j hne (by (first | lia | omega))]; exact e
  · by_cases hne : j = i
    · subst hne; exact .inr hself
    · rcases h.new j hj with e | e
      · rw [← e]; exact p.new j hne (by (first | lia | omega))
      · rw [p.old j hne (by (first | lia | omega))]; exact .inr e
  · rcases p.greyIn j hj with h1 | ⟨_, h1, _⟩
    · exact h.gr j (by rw [hg]; simp [h1])
    · have := h.low h1; (first | lia | omega)
  · rw [p.again] at hj
    replace hj := hj
    split at hj
    · rcases List.mem_append.mp hj with h1 | h1
      · exact h.ag j h1
      · rw [List.mem_singleton.mp h1]; exact hi
    · exact h.ag j hj
theorem Sd.mk_ {a b c : St} (h : Sd a b) (m : Mk b c) (hag : c.again = b.again) : Sd a c := by
  refine ⟨h.same.trans m.same.a, fun j hj => ?_, fun j hj => ?_, fun j hj => ?_, fun j hj => ?_, fun j hj => ?_⟩
  · have e := h.four j hj
    rw [m.old j (by (first | lia | omega)), e]
  · have e := h.range j hj
    rw [m.old j (by (first | lia | omega))]; exact e
  · rcases h.new j hj with e | e
    · rw [← e]; exact m.new j (by (first | lia | omega))
    · rw [m.old j (by (first | lia | omega))]; exact .inr e
  · rcases m.greyIn j hj with h1 | ⟨h1, _⟩
    · exact h.gr j h1
    · have := h.low h1; (first | lia | omega)
  · rw [hag] at hj; exact h.ag j hj
/-- all that is marked lies in P -/
structure YG (P : Nat → Prop) (b : St) : Prop where
  m : ∀ j, b.ok j → (b.mark j = 2 ∨ b.mark j = 3) → P j
  g : ∀ j ∈ b.grey, P j
  a : ∀ j ∈ b.again, P j
theorem Mk.yg {P : Nat → Prop} {b c : St} (h : YG P b) (m : Mk b c) (hn : NewIn P b c) (hag : c.again = b.again) (hgo : ∀ j ∈ c.grey, c.ok j) : YG P c := by
  have key : ∀ j, c.ok j → (c.mark j = 2 ∨ c.mark j = 3) → P j := fun j ho hj => by
    by_cases h1 : b.mark j < 2
    · exact hn j h1 (by (first | lia | omega))
    · rw [m.old j (by (first | lia | omega))] at hj; exact h.m j ((m.same.okIff j).mp ho) hj
  refine ⟨key, fun j hj => ?_, fun j hj => h.a j (by rw [← hag]; exact hj)⟩
  rcases m.greyIn j hj with h1 | ⟨_, h1⟩
  · exact h.g j h1
  · exact key j (hgo j hj) (.inl h1)
theorem YG.prop {P : Nat → Prop} {E : Nat → List Nat} (hP : ∀ j, P j → ∀ c ∈ E j, P c) (st : St) (l : List Nat) (i : Nat) (h : YG P st) (hE : st.edges = E) (hw : Wg st) (hg : st.grey = l ++ [i]) : YG P (propAt st l i) := by
  have hi : P i := h.g i (by rw [hg]; simp)
  obtain ⟨h1, he, hn, hs⟩ := propPre_wg hw hg
  have hok : st.ok i := hw.grey i (by rw [hg]; simp)
  have hl : ∀ c ∈ st.edges i, (propPre st l i).ok c := fun c hc => by
    have := hw.wf.edge i hok c hc
    unfold St.ok at this ⊢; rw [hn]; exact this
  obtain ⟨m1, m2⟩ := markAll_mk h1.wf hl
  have hni : NewIn P (propPre st l i) (markAll (propPre st l i) (st.edges i)) := markAll_in _ _ (by rw [he, hE]; exact hP) (by rw [hE]; exact hP i hi)
  rw [propAt_eq]
  have hw2 := (propAt_wg hw hg).1
  rw [propAt_eq] at hw2
  replace hw2 := hw2
  refine Mk.yg ⟨fun j ho hj => ?_, fun j hj => ?_, fun j hj => ?_⟩ m1 hni (SameM.again m1.same) hw2.grey
  · rw [propPre_mark] at hj
    replace hj := hj
    split at hj
    · rename_i e; rw [e]; exact hi
    · exact h.m j (((propPre_same st l i).ok j).mp ho) hj
  · rw [propPre_grey] at hj; exact h.g j (by rw [hg]; simp [hj])
  · rw [propPre_again] at hj
    replace hj := hj
    split at hj
    · rcases List.mem_append.mp hj with h2 | h2
      · exact h.a j h2
      · rw [List.mem_singleton.mp h2]; exact hi
    · exact h.a j hj
theorem propAt_sum3 {st : St} {l : List Nat} {i : Nat} (hw : Wg st) (hg : st.grey = l ++ [i]) : whites (propAt st l i) + (propAt st l i).grey.length + (propAt st l i).again.length ≤ whites st + st.grey.length + st.again.length := by
  have p := propAt_pr hw hg
  have h1 := p.sum
  rw [p.again]
  split
  · rw [List.length_append, List.length_singleton]; (first | lia | omega)
  · (first | lia | omega)
/-- what «finish» leaves -/
structure Fi (a f : St) : Prop where
  sd : Sd a f
  grey : f.grey = []
  wg : Wg f
  clo : ∀ i, (f.mark i = 2 ∨ f.mark i = 3) → a.ok i → ∀ c ∈ a.edges i, 2 ≤ f.mark c
  roots : ∀ c ∈ a.roots, 2 ≤ f.mark c
  sum : whites f + f.again.length ≤ whites a + a.grey.length + a.again.length
  yg : ∀ P : Nat → Prop, (∀ j, P j → ∀ c ∈ a.edges j, P c) → YG P a → (∀ c ∈ a.roots, P c) → YG P f
theorem finish_fi {a : St} (hw : Wg a) (ht : Tri a) (hg : ∀ j ∈ a.grey, a.mark j < 4) (ha : ∀ j ∈ a.again, a.mark j < 4) : Fi a (finish a) := by
  have hB : ∀ (B : Nat) (s : St), Wg s → whites s + s.grey.length + s.again.length ≤ B → whites (propAll s) + (propAll s).grey.length + (propAll s).again.length ≤ B := fun B s hw h =>
    propAll_ind (I := fun s => whites s + s.grey.length + s.again.length ≤ B) (fun st l i h hw hg => Nat.le_trans (propAt_sum3 hw hg) h) h hw
  have hSd : ∀ s : St, Wg s → Sd a s → Sd a (propAll s) := fun s hw h => propAll_ind (I := Sd a) Sd.prop h hw
  have hTri : ∀ s : St, Wg s → Tri s → Tri (propAll s) := fun s hw h => propAll_ind (I := Tri) Tri.prop h hw
  have hY : ∀ (P : Nat → Prop) (s : St), (∀ j, P j → ∀ c ∈ a.edges j, P c) → s.edges = a.edges → Wg s → YG P s → YG P (propAll s) := fun P s hP hE hw h =>
    (propAll_ind (I := fun s => YG P s ∧ s.edges = a.edges) (fun st l i h hw hg => ⟨YG.prop hP st l i h.1 h.2 hw hg, by rw [(propAt_pr hw hg).same.edges]; exact h.2⟩) ⟨h, hE⟩ hw).1
  have hrm : ∀ s : St, Wg s → ∀ c, 2 ≤ s.mark c → 2 ≤ (propAll s).mark c := fun s hw c hc => propAll_ind (I := fun s => 2 ≤ s.mark c) (fun st l i h hw hg => (propAt_pr hw hg).up h) hc hw
  -- the first turn
  obtain ⟨w1, g1⟩ := propAll_wg hw
  have d1 := hSd a hw (Sd.refl hg ha)
  have t1 := hTri a hw ht
  have b1 := hB _ a hw (Nat.le_refl _)
  have y1 : ∀ P : Nat → Prop, (∀ j, P j → ∀ c ∈ a.edges j, P c) → YG P a → YG P (propAll a) := fun P hP h => hY P a hP rfl hw h
  unfold finish
  generalize propAll a = s1 at w1 g1 d1 t1 b1 y1
  have e2 : ({ s1 with grey := [] } : St) = s1 := by
    have : s1.grey = [] := g1
    cases s1; simp only at this; subst this; rfl
  dsimp only
  rw [e2]
  have hr1 : s1.roots = a.roots := d1.same.roots
  have he1 : s1.edges = a.edges := d1.same.edges
  obtain ⟨m2, r2⟩ := markAll_mk w1.wf (l := s1.roots) w1.roots
  have w2 : Wg (markAll s1 s1.roots) := foldF_wg 20 _ w1 w1.roots
  have s2 : whites (markAll s1 s1.roots) + (markAll s1 s1.roots).grey.length ≤ whites s1 + s1.grey.length := foldF_sum 20 _ _ w1.wf w1.roots
  have y2 : ∀ P : Nat → Prop, (∀ j, P j → ∀ c ∈ a.edges j, P c) → YG P a → (∀ c ∈ a.roots, P c) → YG P (markAll s1 s1.roots) := fun P hP h hr =>
    Mk.yg (y1 P hP h) m2 (markAll_in _ _ (by rw [he1]; exact hP) (by rw [hr1]; exact hr)) (SameM.again m2.same) w2.grey
  have a2 := SameM.again m2.same
  generalize markAll s1 s1.roots = c2 at m2 r2 w2 s2 y2 a2
  have d2 := d1.mk_ m2 a2
  have t2 := t1.mk_ m2 a2
  have b2 : whites c2 + c2.grey.length + c2.again.length ≤ whites a + a.grey.length + a.again.length := by rw [a2]; (first | lia | omega)
  obtain ⟨w3, g3⟩ := propAll_wg w2
  have d3 := hSd c2 w2 d2
  have t3 := hTri c2 w2 t2
  have b3 := hB _ c2 w2 b2
  have r3 : ∀ c ∈ a.roots, 2 ≤ (propAll c2).mark c := fun c hc => hrm c2 w2 c (r2 c (by rw [hr1]; exact hc))
  have y3 : ∀ P : Nat → Prop, (∀ j, P j → ∀ c ∈ a.edges j, P c) → YG P a → (∀ c ∈ a.roots, P c) → YG P (propAll c2) := fun P hP h hr => hY P c2 hP d2.same.edges w2 (y2 P hP h hr)
  generalize propAll c2 = s3 at w3 g3 d3 t3 b3 r3 y3
  have w4 : Wg ({ s3 with grey := s3.again, again := [] } : St) := by
    refine ⟨⟨w3.wf.small, w3.wf.sort, w3.wf.size, w3.wf.edge, w3.wf.elen⟩, w3.again, (fun _ h => nomatch h), w3.roots, ?_⟩
    have h1 := w3.sum
    have h2 : whites ({ s3 with grey := s3.again, again := [] } : St) = whites s3 := rfl
    show whites ({ s3 with grey := s3.again, again := [] } : St) + s3.again.length + 0 ≤ 900
    (first | lia | omega)
  have d4 : Sd a ({ s3 with grey := s3.again, again := [] } : St) := by
    refine ⟨?_, d3.four, d3.range, d3.new, d3.ag, (fun _ h => nomatch h)⟩
    have h1 := d3.same
    unfold SameA at h1 ⊢
    conv => lhs; rw [h1]
  have t4 : Tri2 ({ s3 with grey := s3.again, again := [] } : St) := fun i hi hok => by
    rcases hi with hi | hi
    · rcases t3.g i hi hok with h1 | h1
      · rw [g3] at h1; cases h1
      · exact .inl h1
    · exact .inr (t3.b i hi hok)
  have b4 : whites ({ s3 with grey := s3.again, again := [] } : St) + ({ s3 with grey := s3.again, again := [] } : St).grey.length + ({ s3 with grey := s3.again, again := [] } : St).again.length ≤ whites a + a.grey.length + a.again.length := by
    show whites ({ s3 with grey := s3.again, again := [] } : St) + s3.again.length + 0 ≤ _
    have h2 : whites ({ s3 with grey := s3.again, again := [] } : St) = whites s3 := rfl
    (first | lia | omega)
  have r4 : ∀ c ∈ a.roots, 2 ≤ ({ s3 with grey := s3.again, again := [] } : St).mark c := r3
  have y4 : ∀ P : Nat → Prop, (∀ j, P j → ∀ c ∈ a.edges j, P c) → YG P a → (∀ c ∈ a.roots, P c) → YG P ({ s3 with grey := s3.again, again := [] } : St) := fun P hP h hr =>
    have y := y3 P hP h hr
    ⟨y.m, y.a, fun _ h => nomatch h⟩
  generalize ({ s3 with grey := s3.again, again := [] } : St) = s4 at w4 d4 t4 b4 r4 y4
  obtain ⟨w5, g5⟩ := propAll_wg w4
  have d5 := hSd s4 w4 d4
  have t5 : Tri2 (propAll s4) := propAll_ind (I := Tri2) Tri2.prop t4 w4
  have b5 := hB _ s4 w4 b4
  refine ⟨d5, g5, w5, fun i hi hok c hc => ?_, fun c hc => hrm s4 w4 c (r4 c hc), by (first | lia | omega), fun P hP h hr => hY P s4 hP d4.same.edges w4 (y4 P hP h hr)⟩
  rcases t5 i hi ((d5.same.ok i).mpr hok) with h1 | h1
  · rw [g5] at h1; cases h1
  · exact h1 c (by rw [d5.same.edges]; exact hc)
end

section
open PySem PySem.W PySem.Calls PyProof.Rows
section
variable {prog : Program} {w : World} {A₀ A : Around} {s : Shared} {base h₀ : Heap} {outer : List Env} {L : Addr} {m : Str → Option Value} {env : Env} {news : List (Addr × Obj)}
/-- the call of a def that the law made (the kit's code_nest, with what stays told) -/
theorem code_nestG {K : Frag} {p : Program} {loose : List Str} {mean : ExcName → Option Value} {mg mb : Str → Option Value} {R : Result → Shared → Prop} {name qual : Str} {params : Arguments} {body : List Stmt} {scope : Scope} {cl : List (Str × Addr)} {doc pm ctv : Value} {c' : Addr} {f : Addr} {args : Args} {binds : List (Str × Value)}
    (B : Below A₀ base outer h₀) (F : Fr h₀ L s.heap m) (X₀ : K.In h₀) (N : News h₀ L s.heap news) (T : Top p loose mean mg mb h₀) (hA : A.frames = some (env :: outer)) (hf : env.frame = some L) (hke : env.scope.kind = .function)
    (ho : (f, fnMade name qual params body scope cl doc pm c' ctv) ∈ news) (hcd : s.heap.CodeRec (.ref c') qual) (hroom : A.depth < recursionLimit)
    (hbind : BindsTo s (fnX name qual params body scope cl .none .none doc pm none (.ref c') ctv) args binds) (hloc : ∀ y ∈ binds, scope.names.lookup y.1 = some .local)
    (h : ∀ g L' h₁, Fr h₀ L g m → Fr g L' h₁ (fun y => binds.reverse.lookup y) → News g L' h₁ news → Below A base (env :: outer) g → K.In g → Top p loose mean mg mb g → GSub s.heap g (news.map (·.1)) →
      wpAny (model prog w) (A.deeper (envX qual scope L' f (.ref c') cl)) (execs body (envX qual scope L' f (.ref c') cl))
        (fun fl s' => LeaveK h₀ L m g R (match fl with | .ret v => v | _ => .none) s')
        (fun e s' => wpAny (model prog w) (A.deeper (envX qual scope L' f (.ref c') cl)) (leaving (envX qual scope L' f (.ref c') cl) e) (fun _ s'' => R (.error e) s'') (fun e' s'' => R (.error e') s'') s')
        { s with heap := h₁, toks := s.toks + binds.length })
    (hco : scope.isCoroutine = false) (hgen : scope.isGenerator = false) (hk : scope.kind = .function)
    (hcell : ∀ x ∈ scope.names, x.2 ≠ .cell) : codeAny (model prog w) A (.call (.ref f) args) R s := by
  obtain ⟨FG, BG, st, lv⟩ := groundX (R := R) B F N hA hf hke
  refine codeAny_call_def (fd := fnX name qual params body scope cl .none .none doc pm none (.ref c') ctv) (body := body) (binds := binds) hroom (N _ ho).1 rfl (T.nolimit.keeps F.keep) hcd rfl hbind hcell hloc (fun h₁ hns hk₁ => ?_) hco hgen hk
  exact wpAny_mono (h _ s.heap.objs.size h₁ FG ⟨hns, fun b o e => hk₁ b o (of_hideAll _ e), Nat.le_of_eq (hideAll_size _ _)⟩
    (fun p hp => ⟨hk₁ _ _ (N p hp).1, Nat.ne_of_lt (Heap.lt_size (N p hp).1), hideAll_none _ (List.mem_map_of_mem hp)⟩) BG (X₀.keeps st) (T.keeps st) (fun b o e n => hideAll_get _ e n)) (fun fl s' hl => lv _ _ hl) fun _ _ y => y
/-- the call of a lambda that the law made -/
theorem code_lamG {K : Frag} {p : Program} {loose : List Str} {mean : ExcName → Option Value} {mg mb : Str → Option Value} {R : Result → Shared → Prop} {name qual : Str} {params : Arguments} {body : Expr} {scope : Scope} {cl : List (Str × Addr)} {pm ctv : Value} {c' : Addr} {f : Addr} {args : Args} {binds : List (Str × Value)}
    (B : Below A₀ base outer h₀) (F : Fr h₀ L s.heap m) (X₀ : K.In h₀) (N : News h₀ L s.heap news) (T : Top p loose mean mg mb h₀) (hA : A.frames = some (env :: outer)) (hf : env.frame = some L) (hke : env.scope.kind = .function)
    (ho : (f, kla_obj name qual params body scope cl pm c' ctv) ∈ news) (hcd : s.heap.CodeRec (.ref c') qual) (hroom : A.depth < recursionLimit)
    (hbind : bindArgs (kla_fn name qual params body scope cl pm (.ref c') ctv) args = pure binds) (hloc : ∀ y ∈ binds, scope.names.lookup y.1 = some .local)
    (h : ∀ g L' h₁, Fr h₀ L g m → Fr g L' h₁ (fun y => binds.reverse.lookup y) → News g L' h₁ news → Below A base (env :: outer) g → K.In g → Top p loose mean mg mb g → GSub s.heap g (news.map (·.1)) →
      wpAny (model prog w) (A.deeper (envX qual scope L' f (.ref c') cl)) (eval body (envX qual scope L' f (.ref c') cl))
        (fun v s' => LeaveK h₀ L m g R v s')
        (fun e s' => wpAny (model prog w) (A.deeper (envX qual scope L' f (.ref c') cl)) (leaving (envX qual scope L' f (.ref c') cl) e) (fun _ s'' => R (.error e) s'') (fun e' s'' => R (.error e') s'') s')
        { s with heap := h₁, toks := s.toks + binds.length })
    (hco : scope.isCoroutine = false) (hgen : scope.isGenerator = false) (hk : scope.kind = .function)
    (hcell : ∀ x ∈ scope.names, x.2 ≠ .cell) : codeAny (model prog w) A (.call (.ref f) args) R s := by
  obtain ⟨FG, BG, st, lv⟩ := groundX (R := R) B F N hA hf hke
  refine kla_callFunE hroom (N _ ho).1 rfl hco hgen rfl hcd ?_
  rw [hbind]
  refine wpAny_pure (wpAny_newFunctionEnv hcell hloc (fun h₁ hns hsb => ⟨((T.nolimit).keeps F.keep).fresh _ hsb, ?_⟩) hk)
  show codeAny _ _ (.expr body (envX qual scope s.heap.objs.size f (.ref c') cl)) _ _
  have hk₁ : ∀ b o, s.heap.get? b = some o → h₁.get? b = some o := fun b o e => hsb.extBut b o (Nat.ne_of_lt (Heap.lt_size e)) (Heap.get?_push_of_some _ e)
  exact kla_codeExpr (wpAny_mono (h _ s.heap.objs.size h₁ FG ⟨hns, fun b o e => hk₁ b o (of_hideAll _ e), Nat.le_of_eq (hideAll_size _ _)⟩
    (fun p hp => ⟨hk₁ _ _ (N p hp).1, Nat.ne_of_lt (Heap.lt_size (N p hp).1), hideAll_none _ (List.mem_map_of_mem hp)⟩) BG (X₀.keeps st) (T.keeps st) (fun b o e n => hideAll_get _ e n)) (fun v s' hl => lv _ _ hl) fun _ _ y => y)
end
theorem runs_ofN {w : World} {f c' : Addr} {args : List Value} {D U : Nat} {news : List (Addr × Obj)} {Post : Value → List (Addr × Obj) → Prop} {name qual : Str} {params : Arguments} {body : List Stmt} {scope : Scope} {cl : List (Str × Addr)} {doc pm ctv : Value} {oc : Obj} {vs : Array Value} {t : Tok} {names : List Str}
    (ho : (f, fnMade name qual params body scope cl doc pm c' ctv) ∈ news) (hc : (c', oc) ∈ news) (hdc : oc.data = .fields vs) (hv : vs[1]? = some (.str qual t))
    (hlen : names.length = args.length) (hnd : names.Nodup)
    (hbind : ∀ s, BindsTo s (fnX name qual params body scope cl .none .none doc pm none (.ref c') ctv) ⟨args, []⟩ (names.zip args)) (hloc : ∀ y ∈ names.zip args, scope.names.lookup y.1 = some .local)
    (hco : scope.isCoroutine = false) (hgen : scope.isGenerator = false) (hk : scope.kind = .function) (hcell : ∀ x ∈ scope.names, x.2 ≠ .cell)
    (h : ∀ (p : Program) (loose : List Str) (mean : ExcName → Option Value) (mg mb : Str → Option Value) (dp un : Nat) (gd : Option (List Code)) (outer : List Env) (A₀ : Around) (base g : Heap) (L : Addr) (h₁ : Heap) (gens : Array GenState) (drawn : Drawn) (tk : Nat) (os : OsState),
      Below A₀ base outer g → Fr g L h₁ (bindM names args) → (hd0.heap_1 w.params).In g → News g L h₁ news → Top p loose mean mg mb g → dp + D ≤ recursionLimit → un + U < cLine + 3 →
      wpAny (model PP w) (ktrTop dp un gd qual scope L f (.ref c') cl outer) (execs body (envX qual scope L f (.ref c') cl)) (fun fl s' => Done g L gens drawn os Post (match fl with | .ret v => v | _ => .none) s') (fun _ _ => False) ⟨h₁, gens, drawn, tk, os⟩) :
    Runs w f args D U news Post := by
  intro p loose mean mg mb A env outer A₀ base h₀ L m s R B F X N T hA hf hke hh hd hu k
  obtain ⟨Ah, Ad, Af, Ag, Au⟩ := A
  dsimp only at hA hh hd hu
  subst hA hh
  refine code_nestG B F X N T rfl hf hke ho (codeRec_news N hc hdc hv) (by show Ad < recursionLimit; (first | lia | omega)) (hbind s) hloc (fun g L' h₁ FG F' N' B' X' T' kG => ?_) hco hgen hk hcell
  obtain ⟨sh, sg, sd, st, so⟩ := s
  have eF : (fun y => (names.zip args).reverse.lookup y) = bindM names args := funext fun y => by
    rw [lookup_rev (by rw [map_zip _ _ hlen]; exact hnd), bindM_lookup]
  rw [eF] at F'
  refine wpAny_mono (h p loose mean mg mb (Ad + 1) (Au + 3) Ag (env :: outer) _ base g L' h₁ sg sd _ so B' F' X' N' T' (by (first | lia | omega)) (by (first | lia | omega))) (fun fl s' hD => ?_) (fun _ _ e => e.elim)
  obtain ⟨h', tk', m', news', rfl, F₂, N₂, hP⟩ := hD
  refine leaveK_ F₂ N₂ fun F₃ N₃ => k _ news' h' tk' F₃ N₃ ⟨fun b o e hb => F₂.keep b o (kG b o e hb), fun q hq => ?_⟩ hP
  by_cases hb : q.1 ∈ news.map (·.1)
  · exact .inl hb
  · right
    cases hx : sh.get? q.1 with
    | none => rfl
    | some o =>
      have := kG _ _ hx hb
      rw [(N₂ q hq).2.2] at this; cases this
theorem runs_ofL {w : World} {f c' : Addr} {args : List Value} {D U : Nat} {news : List (Addr × Obj)} {Post : Value → List (Addr × Obj) → Prop} {name qual : Str} {params : Arguments} {body : Expr} {scope : Scope} {cl : List (Str × Addr)} {pm ctv : Value} {oc : Obj} {vs : Array Value} {t : Tok} {names : List Str}
    (ho : (f, kla_obj name qual params body scope cl pm c' ctv) ∈ news) (hc : (c', oc) ∈ news) (hdc : oc.data = .fields vs) (hv : vs[1]? = some (.str qual t))
    (hlen : names.length = args.length) (hnd : names.Nodup)
    (hbind : bindArgs (kla_fn name qual params body scope cl pm (.ref c') ctv) ⟨args, []⟩ = pure (names.zip args)) (hloc : ∀ y ∈ names.zip args, scope.names.lookup y.1 = some .local)
    (hco : scope.isCoroutine = false) (hgen : scope.isGenerator = false) (hk : scope.kind = .function) (hcell : ∀ x ∈ scope.names, x.2 ≠ .cell)
    (h : ∀ (p : Program) (loose : List Str) (mean : ExcName → Option Value) (mg mb : Str → Option Value) (dp un : Nat) (gd : Option (List Code)) (outer : List Env) (A₀ : Around) (base g : Heap) (L : Addr) (h₁ : Heap) (gens : Array GenState) (drawn : Drawn) (tk : Nat) (os : OsState),
      Below A₀ base outer g → Fr g L h₁ (bindM names args) → (hd0.heap_1 w.params).In g → News g L h₁ news → Top p loose mean mg mb g → dp + D ≤ recursionLimit → un + U < cLine + 3 →
      wpAny (model PP w) (ktrTop dp un gd qual scope L f (.ref c') cl outer) (eval body (envX qual scope L f (.ref c') cl)) (fun v s' => Done g L gens drawn os Post v s') (fun _ _ => False) ⟨h₁, gens, drawn, tk, os⟩) :
    Runs w f args D U news Post := by
  intro p loose mean mg mb A env outer A₀ base h₀ L m s R B F X N T hA hf hke hh hd hu k
  obtain ⟨Ah, Ad, Af, Ag, Au⟩ := A
  dsimp only at hA hh hd hu
  subst hA hh
  refine code_lamG B F X N T rfl hf hke ho (codeRec_news N hc hdc hv) (by show Ad < recursionLimit; (first | lia | omega)) hbind hloc (fun g L' h₁ FG F' N' B' X' T' kG => ?_) hco hgen hk hcell
  obtain ⟨sh, sg, sd, st, so⟩ := s
  have eF : (fun y => (names.zip args).reverse.lookup y) = bindM names args := funext fun y => by
    rw [lookup_rev (by rw [map_zip _ _ hlen]; exact hnd), bindM_lookup]
  rw [eF] at F'
  refine wpAny_mono (h p loose mean mg mb (Ad + 1) (Au + 3) Ag (env :: outer) _ base g L' h₁ sg sd _ so B' F' X' N' T' (by (first | lia | omega)) (by (first | lia | omega))) (fun v s' hD => ?_) (fun _ _ e => e.elim)
  obtain ⟨h', tk', m', news', rfl, F₂, N₂, hP⟩ := hD
  refine leaveK_ F₂ N₂ fun F₃ N₃ => k _ news' h' tk' F₃ N₃ ⟨fun b o e hb => F₂.keep b o (kG b o e hb), fun q hq => ?_⟩ hP
  by_cases hb : q.1 ∈ news.map (·.1)
  · exact .inl hb
  · right
    cases hx : sh.get? q.1 with
    | none => rfl
    | some o =>
      have := kG _ _ hx hb
      rw [(N₂ q hq).2.2] at this; cases this
end

section
open PySem PySem.W PySem.Calls PyProof.Rows
theorem upd_tmp {d : Addr} {o o' : Obj} {l l' : List (Addr × Obj)} : ∀ {tmp : List (Addr × Obj)}, (∀ p ∈ tmp, p.1 ≠ d) → Upd d o o' l l' → Upd d o o' (tmp ++ l) (tmp ++ l')
  | [], _, U => U
  | p :: _, h, U => Upd.tail (h p (.head _)) (upd_tmp (fun q hq => h q (.tail _ hq)) U)
theorem updF_tmp {d : Addr} {o : Obj} {l : List (Addr × Obj)} {g : Obj → List (Addr × Obj)} : ∀ {tmp : List (Addr × Obj)}, (∀ p ∈ tmp, p.1 ≠ d) → UpdF d o l g → UpdF d o (tmp ++ l) (fun o' => tmp ++ g o')
  | [], _, U => U
  | p :: _, h, U => UpdF.tail (h p (.head _)) (updF_tmp (fun q hq => h q (.tail _ hq)) U)
theorem off_nil {l : List (Addr × Obj)} : Off [] l := fun _ h => nomatch h
theorem Off.ne {tmp : List (Addr × Obj)} {β : Role → Addr} {σ : Role → Obj} {n : Nat} {r : Role} (h : Off tmp (led β σ n)) (hr : r.ok n) : ∀ p ∈ tmp, p.1 ≠ β r :=
  fun p hp e => h p hp (e ▸ List.mem_map.mpr ⟨_, mem_led hr, rfl⟩)
theorem Off.upd {tmp : List (Addr × Obj)} {β : Role → Addr} {σ σ' : Role → Obj} {n : Nat} (h : Off tmp (led β σ n)) : Off tmp (led β σ' n) := fun p hp hq => by
  obtain ⟨q, hq, e⟩ := List.mem_map.mp hq
  obtain ⟨r, hr, rfl⟩ := of_led hq
  exact h.ne hr p hp e.symm
theorem numKV_find (f : Nat → Addr) : ∀ (l : List Nat) (i : Nat), i ∈ l → valueAt (numKV f l) (i : Int) = some (.ref (f i))
  | [], _, h => nomatch h
  | a :: l, i, h => by
    unfold valueAt numKV
    rw [List.map_cons, List.find?_cons]
    by_cases e : a = i
    · subst e; simp
    · have : ¬ ((a : Int) = (i : Int)) := by (first | lia | omega)
      simp only [this, decide_false]
      exact numKV_find f l i ((List.mem_cons.mp h).resolve_left fun q => e q.symm)
theorem numKV_none (f : Nat → Addr) : ∀ (l : List Nat) (i : Nat), i ∉ l → valueAt (numKV f l) (i : Int) = none
  | [], _, _ => rfl
  | a :: l, i, h => by
    unfold valueAt numKV
    rw [List.map_cons, List.find?_cons]
    have : ¬ ((a : Int) = (i : Int)) := fun e => h (by rw [show i = a by (first | lia | omega)]; exact .head _)
    simp only [this, decide_false]
    exact numKV_none f l i fun q => h (.tail _ q)
theorem sortKV_find {f : Nat → Int} : ∀ {l : List Nat} {kvs : List (Int × Value)}, SortKV f l kvs → ∀ {i : Nat}, i ∈ l → ∃ t, valueAt kvs (i : Int) = some (.int (f i) t)
 := by
  intro l kvs h
  induction h with
  | nil => intro i h; cases h
  | cons a t r ih =>
    intro i h
    by_cases e : a = i
    · subst e; exact ⟨t, by simp [valueAt]⟩
    · obtain ⟨t', ht⟩ := ih ((List.mem_cons.mp h).resolve_left fun q => e q.symm)
      refine ⟨t', ?_⟩
      unfold valueAt at ht ⊢
      rw [List.find?_cons]
      have : ¬ ((a : Int) = (i : Int)) := by (first | lia | omega)
      simp only [this, decide_false]
      exact ht
section
variable {w : World} {A : Around} {E : Value → Shared → Prop} {s : Shared} {L : Addr} {h₀ : Heap} {m : Str → Option Value} {news tmp : List (Addr × Obj)} {name : Str}
  {α : Role → Addr} {ω : Role → Obj} {ο δ : Nat → Addr} {μ : Role → Addr} {σ : Role → Obj} {st : St} {K : Frag}
theorem Good.list {r : Role} {vs : List Value} (h : IsLO (σ r) vs) (hr : r.ok st.n) (hs : ∀ p ∈ ledW α ο δ μ σ st, p ∈ news) : ∃ k, (adr α ο δ μ r, W.listOf vs.toArray k) ∈ news := by
  obtain ⟨k, e⟩ := h
  refine ⟨k, ?_⟩
  rw [← e]; exact hs _ (mem_led hr)
theorem Good.loGrey (G : Good w α ω ο δ μ σ st) : IsLO (σ .grey) (refs ο st.grey) := G.sh .grey trivial
theorem Good.loAgain (G : Good w α ω ο δ μ σ st) : IsLO (σ .again) (refs ο st.again) := G.sh .again trivial
theorem Good.loWeak (G : Good w α ω ο δ μ σ st) : IsLO (σ .weak) [] := G.sh .weak trivial
theorem Good.loRoots (G : Good w α ω ο δ μ σ st) : IsLO (σ .roots) (refs ο st.roots) := (G.sh .roots trivial).2
theorem Good.isRoots (G : Good w α ω ο δ μ σ st) : σ .roots = ω .roots := (G.sh .roots trivial).1
theorem meth_list (r : Role) {vs : List Value} {id : String} {pl : Sem Bool} {Q : Value × List Value → Shared → Prop} (_G : Good w α ω ο δ μ σ st) (N : News h₀ L s.heap news) (hs : ∀ p ∈ ledW α ο δ μ σ st, p ∈ news) (hr : r.ok st.n) (hL : IsLO (σ r) vs)
    (slot : Slot "list" name id) (hty : typeOf (.builtin id) = pure (.type "method_descriptor")) (h : Q (.builtin id, [.ref (adr α ο δ μ r)]) s) : wpAny (model PP w) A (getMethod (.ref (adr α ο δ μ r)) name pl) Q E s := by
  obtain ⟨k, hm⟩ := Good.list hL hr hs
  exact kl_method N hm slot hty h
theorem len_listW (r : Role) {vs : List Value} {Q : Value → Shared → Prop} (_G : Good w α ω ο δ μ σ st) (N : News h₀ L s.heap news) (hs : ∀ p ∈ ledW α ο δ μ σ st, p ∈ news) (hr : r.ok st.n) (hL : IsLO (σ r) vs) (hz : vs.length ≤ 10000)
    (h : Q (.int vs.length (s.toks + 1)) { s with toks := s.toks + 1 + 1 }) : wpAny (model PP w) A (call (.builtin "len") [.ref (adr α ο δ μ r)]) Q E s := by
  obtain ⟨k, hm⟩ := Good.list hL hr hs
  have hl : s.heap.IsList (adr α ο δ μ r) vs.toArray := ⟨_, (N _ hm).1, rfl, k, rfl⟩
  refine Calls.call_len_list hl (by rw [List.size_toArray]; (first | lia | omega)) ?_
  rw [List.size_toArray]; exact h
theorem append_listW (r : Role) {vs : List Value} {x : Value} {Q : Value → Shared → Prop} (F : Fr h₀ L s.heap m) (N : News h₀ L s.heap (tmp ++ ledW α ο δ μ σ st)) (off : Off tmp (ledW α ο δ μ σ st)) (G : Good w α ω ο δ μ σ st) (hr : r.ok st.n) (hL : IsLO (σ r) vs) (hz : vs.length ≤ 10000)
    (h : ∀ h' o', Fr h₀ L h' m → News h₀ L h' (tmp ++ led (adr α ο δ μ) (upd σ r o') st.n) → IsLO o' (vs ++ [x]) → Q .none { s with heap := h' }) : wpAny (model PP w) A (call (.builtin "list.append") [.ref (adr α ο δ μ r), x]) Q E s := by
  obtain ⟨k, e⟩ := hL
  have U := upd_tmp (off.ne hr) (led_upd (σ := σ) G.inj hr (W.listOf (vs.toArray.push x) (k + 1)))
  rw [e] at U
  exact append_K F N U (fun h' F' N' => h h' _ F' N' ⟨k + 1, by simp⟩) (by rw [List.size_toArray, sizeLine_eq]; (first | lia | omega))
theorem pop_listW (r : Role) {vs : List Value} {x : Value} {Q : Value → Shared → Prop} (F : Fr h₀ L s.heap m) (N : News h₀ L s.heap (tmp ++ ledW α ο δ μ σ st)) (off : Off tmp (ledW α ο δ μ σ st)) (G : Good w α ω ο δ μ σ st) (hr : r.ok st.n) (hL : IsLO (σ r) (vs ++ [x])) (hz : vs.length ≤ 10000)
    (h : ∀ h' o', Fr h₀ L h' m → News h₀ L h' (tmp ++ led (adr α ο δ μ) (upd σ r o') st.n) → IsLO o' vs → Q x { s with heap := h' }) : wpAny (model PP w) A (call (.builtin "list.pop") [.ref (adr α ο δ μ r)]) Q E s := by
  obtain ⟨k, e⟩ := hL
  have U := upd_tmp (off.ne hr) (led_upd (σ := σ) G.inj hr (W.listOf vs.toArray (k + 1)))
  rw [e] at U
  exact kl_pop F N (by rw [List.toList_toArray]; exact kpa_last x vs) U (by rw [List.toList_toArray, List.length_append, sizeLine_eq, List.length_singleton]; (first | lia | omega)) fun h' F' N' => h h' _ F' N' ⟨k + 1, rfl⟩
/-- «self.grey.append(obj)» -/
theorem app_grey {i : Nat} {Q : Value → Shared → Prop} (F : Fr h₀ L s.heap m) (N : News h₀ L s.heap (tmp ++ ledW α ο δ μ σ st)) (off : Off tmp (ledW α ο δ μ σ st)) (G : Good w α ω ο δ μ σ st) (hz : st.grey.length ≤ 10000)
    (h : ∀ h' σ', Fr h₀ L h' m → News h₀ L h' (tmp ++ ledW α ο δ μ σ' (st.setGrey (st.grey ++ [i]))) → Off tmp (ledW α ο δ μ σ' (st.setGrey (st.grey ++ [i]))) → Good w α ω ο δ μ σ' (st.setGrey (st.grey ++ [i])) → Q .none { s with heap := h' }) :
    wpAny (model PP w) A (call (.builtin "list.append") [.ref (μ .grey), .ref (ο i)]) Q E s := by
  refine append_listW .grey F N off G trivial G.loGrey (by simpa [refs] using hz) fun h' o' F' N' hL => h h' _ F' N' off.upd (G.set rfl ?_ ?_)
  · show IsLO o' (refs ο (st.grey ++ [i])); simpa [refs] using hL
  · intro r' o hne hS; cases r' <;> first | exact hS | exact absurd rfl hne
theorem app_again {i : Nat} {Q : Value → Shared → Prop} (F : Fr h₀ L s.heap m) (N : News h₀ L s.heap (tmp ++ ledW α ο δ μ σ st)) (off : Off tmp (ledW α ο δ μ σ st)) (G : Good w α ω ο δ μ σ st) (hz : st.again.length ≤ 10000)
    (h : ∀ h' σ', Fr h₀ L h' m → News h₀ L h' (tmp ++ ledW α ο δ μ σ' (st.setAgain (st.again ++ [i]))) → Off tmp (ledW α ο δ μ σ' (st.setAgain (st.again ++ [i]))) → Good w α ω ο δ μ σ' (st.setAgain (st.again ++ [i])) → Q .none { s with heap := h' }) :
    wpAny (model PP w) A (call (.builtin "list.append") [.ref (μ .again), .ref (ο i)]) Q E s := by
  refine append_listW .again F N off G trivial G.loAgain (by simpa [refs] using hz) fun h' o' F' N' hL => h h' _ F' N' off.upd (G.set rfl ?_ ?_)
  · show IsLO o' (refs ο (st.again ++ [i])); simpa [refs] using hL
  · intro r' o hne hS; cases r' <;> first | exact hS | exact absurd rfl hne
/-- «self.grey.pop()» -/
theorem pop_grey {i : Nat} {l : List Nat} {Q : Value → Shared → Prop} (F : Fr h₀ L s.heap m) (N : News h₀ L s.heap (tmp ++ ledW α ο δ μ σ st)) (off : Off tmp (ledW α ο δ μ σ st)) (G : Good w α ω ο δ μ σ st) (hg : st.grey = l ++ [i]) (hz : st.grey.length ≤ 10000)
    (h : ∀ h' σ', Fr h₀ L h' m → News h₀ L h' (tmp ++ ledW α ο δ μ σ' (st.setGrey (l))) → Off tmp (ledW α ο δ μ σ' (st.setGrey (l))) → Good w α ω ο δ μ σ' (st.setGrey (l)) → Q (.ref (ο i)) { s with heap := h' }) :
    wpAny (model PP w) A (call (.builtin "list.pop") [.ref (μ .grey)]) Q E s := by
  have hL := G.loGrey
  rw [hg] at hL hz
  rw [List.length_append, List.length_singleton] at hz
  refine pop_listW .grey (vs := refs ο l) (x := .ref (ο i)) F N off G trivial (by simpa [refs] using hL) (by simp [refs]; (first | lia | omega)) fun h' o' F' N' hL => h h' _ F' N' off.upd (G.set rfl ?_ ?_)
  · exact hL
  · intro r' o hne hS; cases r' <;> first | exact hS | exact absurd rfl hne
theorem set_objD {i : Nat} {τ : Nat → Tok} {v : Value} {Q : Unit → Shared → Prop} (F : Fr h₀ L s.heap m) (X₀ : K.In h₀) (N : News h₀ L s.heap (tmp ++ ledW α ο δ μ σ st)) (off : Off tmp (ledW α ο δ μ σ st)) (G : Good w α ω ο δ μ σ st) (hi : 1 ≤ i ∧ i ≤ st.n)
    (hd : (σ (.objD i)).IsDictOf (sK w) (objKV st i τ))
    (hs : findIn K (.ref 367) "__setattr__" = some (some (.builtin "object.__setattr__"))) (hp : plainOver K 367 = true) (ht : takerIn K 367 name = some none) (hh : hasDictIn K 367 = true)
    (h : ∀ h' o', Fr h₀ L h' m → News h₀ L h' (tmp ++ led (adr α ο δ μ) (upd σ (.objD i) o') st.n) → o'.IsDictOf (sK w) (stored (objKV st i τ) name v) → Q () { s with heap := h', toks := s.toks + 2 }) :
    wpAny (model PP w) A (setAttr (.ref (ο i)) name v) Q E s := by
  have h1 : (ο i, instObj 367 (δ i)) ∈ tmp ++ ledW α ο δ μ σ st := by
    have := mem_led (β := adr α ο δ μ) (σ := σ) (n := st.n) (r := .obj i) hi
    rw [show σ (.obj i) = _ from G.sh (.obj i) hi] at this
    exact List.mem_append_right _ this
  exact setA F X₀ N h1 (updF_tmp (off.ne (r := .objD i) hi) (led_updF G.inj (r := .objD i) hi)) hd hs hp ht hh (Nat.le_of_ble_eq_true rfl) h
theorem set_cycD {τ : Nat → Tok} {v : Value} {Q : Unit → Shared → Prop} (F : Fr h₀ L s.heap m) (X₀ : K.In h₀) (N : News h₀ L s.heap (tmp ++ ledW α ο δ μ σ st)) (off : Off tmp (ledW α ο δ μ σ st)) (G : Good w α ω ο δ μ σ st)
    (hd : (σ .cycD).IsDictOf (sK w) (cycKV α μ st τ))
    (hs : findIn K (.ref 346) "__setattr__" = some (some (.builtin "object.__setattr__"))) (hp : plainOver K 346 = true) (ht : takerIn K 346 name = some none) (hh : hasDictIn K 346 = true)
    (h : ∀ h' o', Fr h₀ L h' m → News h₀ L h' (tmp ++ led (adr α ο δ μ) (upd σ .cycD o') st.n) → o'.IsDictOf (sK w) (stored (cycKV α μ st τ) name v) → Q () { s with heap := h', toks := s.toks + 2 }) :
    wpAny (model PP w) A (setAttr (.ref (α .cyc)) name v) Q E s := by
  have h1 : (α .cyc, instObj 346 (α .cycD)) ∈ tmp ++ ledW α ο δ μ σ st := by
    have := mem_led (β := adr α ο δ μ) (σ := σ) (n := st.n) (r := .cyc) trivial
    rw [show σ .cyc = _ from G.sh .cyc trivial] at this
    exact List.mem_append_right _ this
  exact setA F X₀ N h1 (updF_tmp (off.ne (r := .cycD) trivial) (led_updF G.inj (r := .cycD) trivial)) hd hs hp ht hh (Nat.le_of_ble_eq_true rfl) h
theorem set_marksD {τ : Nat → Tok} {v : Value} {Q : Unit → Shared → Prop} (F : Fr h₀ L s.heap m) (X₀ : K.In h₀) (N : News h₀ L s.heap (tmp ++ ledW α ο δ μ σ st)) (off : Off tmp (ledW α ο δ μ σ st)) (G : Good w α ω ο δ μ σ st)
    (hd : (σ .marksD).IsDictOf (sK w) (marksKV α μ st τ))
    (hs : findIn K (.ref 136) "__setattr__" = some (some (.builtin "object.__setattr__"))) (hp : plainOver K 136 = true) (ht : takerIn K 136 name = some none) (hh : hasDictIn K 136 = true)
    (h : ∀ h' o', Fr h₀ L h' m → News h₀ L h' (tmp ++ led (adr α ο δ μ) (upd σ .marksD o') st.n) → o'.IsDictOf (sK w) (stored (marksKV α μ st τ) name v) → Q () { s with heap := h', toks := s.toks + 2 }) :
    wpAny (model PP w) A (setAttr (.ref (α .marks)) name v) Q E s := by
  have h1 : (α .marks, instObj 136 (α .marksD)) ∈ tmp ++ ledW α ο δ μ σ st := by
    have := mem_led (β := adr α ο δ μ) (σ := σ) (n := st.n) (r := .marks) trivial
    rw [show σ .marks = _ from G.sh .marks trivial] at this
    exact List.mem_append_right _ this
  exact setA F X₀ N h1 (updF_tmp (off.ne (r := .marksD) trivial) (led_updF G.inj (r := .marksD) trivial)) hd hs hp ht hh (Nat.le_of_ble_eq_true rfl) h
/-- «obj.mark = k» -/
theorem set_mark {i : Nat} {k : Int} {t : Tok} {Q : Unit → Shared → Prop} (F : Fr h₀ L s.heap m) (X₀ : K.In h₀) (N : News h₀ L s.heap (tmp ++ ledW α ο δ μ σ st)) (off : Off tmp (ledW α ο δ μ σ st)) (G : Good w α ω ο δ μ σ st) (hi : 1 ≤ i ∧ i ≤ st.n)
    (hs : findIn K (.ref 367) "__setattr__" = some (some (.builtin "object.__setattr__"))) (hp : plainOver K 367 = true) (ht : takerIn K 367 "mark" = some none) (hh : hasDictIn K 367 = true)
    (h : ∀ h' σ', Fr h₀ L h' m → News h₀ L h' (tmp ++ ledW α ο δ μ σ' (st.setMark i k)) → Off tmp (ledW α ο δ μ σ' (st.setMark i k)) → Good w α ω ο δ μ σ' (st.setMark i k) → Q () { s with heap := h', toks := s.toks + 2 }) :
    wpAny (model PP w) A (setAttr (.ref (ο i)) "mark" (.int k t)) Q E s := by
  obtain ⟨τ, hd⟩ := G.sh (.objD i) hi
  refine set_objD F X₀ N off G hi hd hs hp ht hh fun h' o' F' N' hd' => h h' _ F' N' off.upd (G.set rfl ?_ ?_)
  · refine ⟨fun j => if j = 1 then t else τ j, ?_⟩
    have e : stored (objKV st i τ) "mark" (.int k t) = objKV (st.setMark i k) i (fun j => if j = 1 then t else τ j) := by
      show _ = [(S "number", Value.int (i : Int) (τ 0)), (S "mark", .int (if i = i then k else st.mark i) t), (S "size", .int (st.size i) (τ 2))]
      rw [if_pos rfl]; rfl
    rw [e] at hd'; exact hd'
  · intro r' o hne hS
    cases r' <;> first | exact hS | skip
    rename_i j
    obtain ⟨τ', hS⟩ := hS
    refine ⟨τ', ?_⟩
    have : objKV (st.setMark i k) j τ' = objKV st j τ' := by
      have hji : j ≠ i := fun e => hne (by rw [e])
      unfold objKV St.setMark
      simp only [if_neg hji]
    rw [this]; exact hS
/-- «self.white = k» -/
theorem set_white {k : Int} {t : Tok} {Q : Unit → Shared → Prop} (F : Fr h₀ L s.heap m) (X₀ : K.In h₀) (N : News h₀ L s.heap (tmp ++ ledW α ο δ μ σ st)) (off : Off tmp (ledW α ο δ μ σ st)) (G : Good w α ω ο δ μ σ st)
    (hs : findIn K (.ref 136) "__setattr__" = some (some (.builtin "object.__setattr__"))) (hp : plainOver K 136 = true) (ht : takerIn K 136 "white" = some none) (hh : hasDictIn K 136 = true)
    (h : ∀ h' σ', Fr h₀ L h' m → News h₀ L h' (tmp ++ ledW α ο δ μ σ' (st.setWhite (k))) → Off tmp (ledW α ο δ μ σ' (st.setWhite (k))) → Good w α ω ο δ μ σ' (st.setWhite (k)) → Q () { s with heap := h', toks := s.toks + 2 }) :
    wpAny (model PP w) A (setAttr (.ref (α .marks)) "white" (.int k t)) Q E s := by
  obtain ⟨τ, hd⟩ := G.sh .marksD trivial
  refine set_marksD F X₀ N off G hd hs hp ht hh fun h' o' F' N' hd' => h h' _ F' N' off.upd (G.set rfl ?_ ?_)
  · exact ⟨fun j => if j = 0 then t else τ j, hd'⟩
  · (intro r' o hne hS; cases r' <;> first | exact hS | exact absurd rfl hne)
/-- «cycle.phase = k», and the other ints -/
theorem set_phase {k : Int} {t : Tok} {Q : Unit → Shared → Prop} (F : Fr h₀ L s.heap m) (X₀ : K.In h₀) (N : News h₀ L s.heap (tmp ++ ledW α ο δ μ σ st)) (off : Off tmp (ledW α ο δ μ σ st)) (G : Good w α ω ο δ μ σ st)
    (hs : findIn K (.ref 346) "__setattr__" = some (some (.builtin "object.__setattr__"))) (hp : plainOver K 346 = true) (ht : takerIn K 346 "phase" = some none) (hh : hasDictIn K 346 = true)
    (h : ∀ h' σ', Fr h₀ L h' m → News h₀ L h' (tmp ++ ledW α ο δ μ σ' (st.setPhase (k))) → Off tmp (ledW α ο δ μ σ' (st.setPhase (k))) → Good w α ω ο δ μ σ' (st.setPhase (k)) → Q () { s with heap := h', toks := s.toks + 2 }) :
    wpAny (model PP w) A (setAttr (.ref (α .cyc)) "phase" (.int k t)) Q E s := by
  obtain ⟨τ, hd⟩ := G.sh .cycD trivial
  refine set_cycD F X₀ N off G hd hs hp ht hh fun h' o' F' N' hd' => h h' _ F' N' off.upd (G.set rfl ?_ ?_)
  · exact ⟨fun j => if j = 0 then t else τ j, hd'⟩
  · (intro r' o hne hS; cases r' <;> first | exact hS | exact absurd rfl hne)
theorem set_total {k : Int} {t : Tok} {Q : Unit → Shared → Prop} (F : Fr h₀ L s.heap m) (X₀ : K.In h₀) (N : News h₀ L s.heap (tmp ++ ledW α ο δ μ σ st)) (off : Off tmp (ledW α ο δ μ σ st)) (G : Good w α ω ο δ μ σ st)
    (hs : findIn K (.ref 346) "__setattr__" = some (some (.builtin "object.__setattr__"))) (hp : plainOver K 346 = true) (ht : takerIn K 346 "total" = some none) (hh : hasDictIn K 346 = true)
    (h : ∀ h' σ', Fr h₀ L h' m → News h₀ L h' (tmp ++ ledW α ο δ μ σ' (st.setTotal (k))) → Off tmp (ledW α ο δ μ σ' (st.setTotal (k))) → Good w α ω ο δ μ σ' (st.setTotal (k)) → Q () { s with heap := h', toks := s.toks + 2 }) :
    wpAny (model PP w) A (setAttr (.ref (α .cyc)) "total" (.int k t)) Q E s := by
  obtain ⟨τ, hd⟩ := G.sh .cycD trivial
  refine set_cycD F X₀ N off G hd hs hp ht hh fun h' o' F' N' hd' => h h' _ F' N' off.upd (G.set rfl ?_ ?_)
  · exact ⟨fun j => if j = 1 then t else τ j, hd'⟩
  · (intro r' o hne hS; cases r' <;> first | exact hS | exact absurd rfl hne)
theorem set_est {k : Int} {t : Tok} {Q : Unit → Shared → Prop} (F : Fr h₀ L s.heap m) (X₀ : K.In h₀) (N : News h₀ L s.heap (tmp ++ ledW α ο δ μ σ st)) (off : Off tmp (ledW α ο δ μ σ st)) (G : Good w α ω ο δ μ σ st)
    (hs : findIn K (.ref 346) "__setattr__" = some (some (.builtin "object.__setattr__"))) (hp : plainOver K 346 = true) (ht : takerIn K 346 "estimate" = some none) (hh : hasDictIn K 346 = true)
    (h : ∀ h' σ', Fr h₀ L h' m → News h₀ L h' (tmp ++ ledW α ο δ μ σ' (st.setEst (k))) → Off tmp (ledW α ο δ μ σ' (st.setEst (k))) → Good w α ω ο δ μ σ' (st.setEst (k)) → Q () { s with heap := h', toks := s.toks + 2 }) :
    wpAny (model PP w) A (setAttr (.ref (α .cyc)) "estimate" (.int k t)) Q E s := by
  obtain ⟨τ, hd⟩ := G.sh .cycD trivial
  refine set_cycD F X₀ N off G hd hs hp ht hh fun h' o' F' N' hd' => h h' _ F' N' off.upd (G.set rfl ?_ ?_)
  · exact ⟨fun j => if j = 2 then t else τ j, hd'⟩
  · (intro r' o hne hS; cases r' <;> first | exact hS | exact absurd rfl hne)
theorem set_debt {k : Int} {t : Tok} {Q : Unit → Shared → Prop} (F : Fr h₀ L s.heap m) (X₀ : K.In h₀) (N : News h₀ L s.heap (tmp ++ ledW α ο δ μ σ st)) (off : Off tmp (ledW α ο δ μ σ st)) (G : Good w α ω ο δ μ σ st)
    (hs : findIn K (.ref 346) "__setattr__" = some (some (.builtin "object.__setattr__"))) (hp : plainOver K 346 = true) (ht : takerIn K 346 "debt" = some none) (hh : hasDictIn K 346 = true)
    (h : ∀ h' σ', Fr h₀ L h' m → News h₀ L h' (tmp ++ ledW α ο δ μ σ' (st.setDebt (k))) → Off tmp (ledW α ο δ μ σ' (st.setDebt (k))) → Good w α ω ο δ μ σ' (st.setDebt (k)) → Q () { s with heap := h', toks := s.toks + 2 }) :
    wpAny (model PP w) A (setAttr (.ref (α .cyc)) "debt" (.int k t)) Q E s := by
  obtain ⟨τ, hd⟩ := G.sh .cycD trivial
  refine set_cycD F X₀ N off G hd hs hp ht hh fun h' o' F' N' hd' => h h' _ F' N' off.upd (G.set rfl ?_ ?_)
  · exact ⟨fun j => if j = 3 then t else τ j, hd'⟩
  · (intro r' o hne hS; cases r' <;> first | exact hS | exact absurd rfl hne)
theorem set_thr {k : Int} {t : Tok} {Q : Unit → Shared → Prop} (F : Fr h₀ L s.heap m) (X₀ : K.In h₀) (N : News h₀ L s.heap (tmp ++ ledW α ο δ μ σ st)) (off : Off tmp (ledW α ο δ μ σ st)) (G : Good w α ω ο δ μ σ st)
    (hs : findIn K (.ref 346) "__setattr__" = some (some (.builtin "object.__setattr__"))) (hp : plainOver K 346 = true) (ht : takerIn K 346 "threshold" = some none) (hh : hasDictIn K 346 = true)
    (h : ∀ h' σ', Fr h₀ L h' m → News h₀ L h' (tmp ++ ledW α ο δ μ σ' (st.setThr (k))) → Off tmp (ledW α ο δ μ σ' (st.setThr (k))) → Good w α ω ο δ μ σ' (st.setThr (k)) → Q () { s with heap := h', toks := s.toks + 2 }) :
    wpAny (model PP w) A (setAttr (.ref (α .cyc)) "threshold" (.int k t)) Q E s := by
  obtain ⟨τ, hd⟩ := G.sh .cycD trivial
  refine set_cycD F X₀ N off G hd hs hp ht hh fun h' o' F' N' hd' => h h' _ F' N' off.upd (G.set rfl ?_ ?_)
  · exact ⟨fun j => if j = 6 then t else τ j, hd'⟩
  · (intro r' o hne hS; cases r' <;> first | exact hS | exact absurd rfl hne)
theorem set_cycles {k : Int} {t : Tok} {Q : Unit → Shared → Prop} (F : Fr h₀ L s.heap m) (X₀ : K.In h₀) (N : News h₀ L s.heap (tmp ++ ledW α ο δ μ σ st)) (off : Off tmp (ledW α ο δ μ σ st)) (G : Good w α ω ο δ μ σ st)
    (hs : findIn K (.ref 346) "__setattr__" = some (some (.builtin "object.__setattr__"))) (hp : plainOver K 346 = true) (ht : takerIn K 346 "cycles" = some none) (hh : hasDictIn K 346 = true)
    (h : ∀ h' σ', Fr h₀ L h' m → News h₀ L h' (tmp ++ ledW α ο δ μ σ' (st.setCycles (k))) → Off tmp (ledW α ο δ μ σ' (st.setCycles (k))) → Good w α ω ο δ μ σ' (st.setCycles (k)) → Q () { s with heap := h', toks := s.toks + 2 }) :
    wpAny (model PP w) A (setAttr (.ref (α .cyc)) "cycles" (.int k t)) Q E s := by
  obtain ⟨τ, hd⟩ := G.sh .cycD trivial
  refine set_cycD F X₀ N off G hd hs hp ht hh fun h' o' F' N' hd' => h h' _ F' N' off.upd (G.set rfl ?_ ?_)
  · exact ⟨fun j => if j = 9 then t else τ j, hd'⟩
  · (intro r' o hne hS; cases r' <;> first | exact hS | exact absurd rfl hne)
end
end

section
open PySem PySem.W PyProof.Rows
/-- what a sweep turns -/
noncomputable def SameS (st st' : St) : Prop := st' = { st with mark := st'.mark, live := st'.live, total := st'.total, sweep := st'.sweep }
theorem SameS.refl (st : St) : SameS st st := rfl
theorem SameS.trans {a b c : St} (h : SameS a b) (h' : SameS b c) : SameS a c := by
  unfold SameS at *; rw [h', h]
theorem SameS.n {st st' : St} (h : SameS st st') : st'.n = st.n := by rw [h]
theorem SameS.sort {st st' : St} (h : SameS st st') : st'.sort = st.sort := by rw [h]
theorem SameS.size {st st' : St} (h : SameS st st') : st'.size = st.size := by rw [h]
theorem SameS.edges {st st' : St} (h : SameS st st') : st'.edges = st.edges := by rw [h]
theorem SameS.freed {st st' : St} (h : SameS st st') : st'.freed = st.freed := by rw [h]
theorem SameS.grey {st st' : St} (h : SameS st st') : st'.grey = st.grey := by rw [h]
theorem SameS.again {st st' : St} (h : SameS st st') : st'.again = st.again := by rw [h]
theorem SameS.roots {st st' : St} (h : SameS st st') : st'.roots = st.roots := by rw [h]
theorem SameS.white {st st' : St} (h : SameS st st') : st'.white = st.white := by rw [h]
theorem SameS.phase {st st' : St} (h : SameS st st') : st'.phase = st.phase := by rw [h]
theorem SameS.est {st st' : St} (h : SameS st st') : st'.est = st.est := by rw [h]
theorem SameS.cycles {st st' : St} (h : SameS st st') : st'.cycles = st.cycles := by rw [h]
theorem SameS.turn {st st' : St} (h : SameS st st') : st'.turn = st.turn := by rw [h]
theorem SameS.cells {st st' : St} (h : SameS st st') : st'.cells = st.cells := by rw [h]
theorem sum_filter {f : Nat → Int} {j : Nat} : ∀ {l : List Nat}, l.Nodup → j ∈ l → ((l.filter fun x => decide (x ≠ j)).map f).sum = (l.map f).sum - f j
  | [], _, h => nomatch h
  | a :: l, nd, h => by
    have nd' := List.nodup_cons.mp nd
    by_cases e : a = j
    · subst e
      have h1 : l.filter (fun x => decide (x ≠ a)) = l := List.filter_eq_self.mpr fun x hx => by
        have : x ≠ a := fun e => nd'.1 (e ▸ hx)
        simpa using this
      rw [List.filter_cons_of_neg (by simp), h1]
      simp only [List.map_cons, List.sum_cons]; (first | lia | omega)
    · have h2 : j ∈ l := by
        rcases List.mem_cons.mp h with h | h
        · exact absurd h.symm e
        · exact h
      rw [List.filter_cons_of_pos (by simpa using e)]
      simp only [List.map_cons, List.sum_cons]
      rw [sum_filter nd'.2 h2]; (first | lia | omega)
structure Sw (st st' : St) : Prop where
  same : SameS st st'
  sweep : st'.sweep = []
  live : ∀ j, j ∈ st'.live ↔ j ∈ st.live ∧ ¬ (j ∈ st.sweep ∧ st.dead j)
  nd : st'.live.Nodup
  mark : ∀ j, st'.mark j = if j ∈ st.sweep ∧ j ∈ st.live then (if st.dead j then 4 else st.white) else st.mark j
  total : st'.total = (st'.live.map st.size).sum
theorem sweepOne_facts {st : St} {l : List Nat} {i : Nat} (nd : st.live.Nodup) (ht : st.total = (st.live.map st.size).sum) :
    SameS st (sweepOne (st.setSweep l) i) ∧ (sweepOne (st.setSweep l) i).sweep = l ∧ (∀ j, j ∈ (sweepOne (st.setSweep l) i).live ↔ j ∈ st.live ∧ ¬ (j = i ∧ st.dead j)) ∧ (sweepOne (st.setSweep l) i).live.Nodup ∧
      (∀ j, (sweepOne (st.setSweep l) i).mark j = if j = i ∧ j ∈ st.live then (if st.dead j then 4 else st.white) else st.mark j) ∧ (sweepOne (st.setSweep l) i).total = ((sweepOne (st.setSweep l) i).live.map st.size).sum := by
  unfold sweepOne
  by_cases hl : i ∈ st.live
  · rw [if_pos (show i ∈ (st.setSweep l).live from hl)]
    by_cases hd : st.dead i
    · rw [if_pos (show (st.setSweep l).dead i from hd)]
      refine ⟨rfl, rfl, fun j => ?_, ?_, fun j => ?_, ?_⟩
      · show j ∈ st.live.filter (fun x => decide (x ≠ i)) ↔ _
        rw [List.mem_filter]
        constructor
        · rintro ⟨h1, h2⟩
          exact ⟨h1, fun h => by simp [h.1] at h2⟩
        · rintro ⟨h1, h2⟩
          refine ⟨h1, ?_⟩
          by_cases e : j = i
          · exact absurd ⟨e, e ▸ hd⟩ h2
          · simpa using e
      · exact nd.sublist List.filter_sublist
      · show (if j = i then (4 : Int) else st.mark j) = _
        by_cases e : j = i
        · subst e; rw [if_pos rfl, if_pos ⟨rfl, hl⟩, if_pos hd]
        · rw [if_neg e, if_neg (fun h => e h.1)]
      · show st.total - st.size i = ((st.live.filter (fun x => decide (x ≠ i))).map st.size).sum
        rw [sum_filter nd hl, ht]
    · rw [if_neg (show ¬ (st.setSweep l).dead i from hd)]
      refine ⟨rfl, rfl, fun j => ?_, nd, fun j => ?_, ht⟩
      · show j ∈ st.live ↔ _
        exact ⟨fun h => ⟨h, fun h2 => hd (h2.1 ▸ h2.2)⟩, fun h => h.1⟩
      · show (if j = i then st.white else st.mark j) = _
        by_cases e : j = i
        · subst e; rw [if_pos rfl, if_pos ⟨rfl, hl⟩, if_neg hd]
        · rw [if_neg e, if_neg (fun h => e h.1)]
  · rw [if_neg (show ¬ i ∈ (st.setSweep l).live from hl)]
    refine ⟨rfl, rfl, fun j => ?_, nd, fun j => ?_, ht⟩
    · show j ∈ st.live ↔ _
      exact ⟨fun h => ⟨h, fun h2 => hl (h2.1 ▸ h)⟩, fun h => h.1⟩
    · show st.mark j = _
      rw [if_neg (show ¬ (j = i ∧ j ∈ st.live) from fun h => hl (h.1 ▸ h.2))]
theorem sweepF_step' {st : St} {l : List Nat} {j : Nat} {k : Nat} (hg : st.sweep = l ++ [j]) : sweepF (k + 1) st = sweepF k (sweepOne (st.setSweep l) j) := by
  show (match st.sweep.getLast? with | none => st | some j => sweepF k (sweepOne { st with sweep := st.sweep.dropLast } j)) = _
  have e1 : st.sweep.getLast? = some j := by rw [hg]; simp
  have e2 : st.sweep.dropLast = l := by rw [hg]; simp
  rw [e1, e2]; rfl
theorem sweepF_nil' {st : St} {k : Nat} (hg : st.sweep = []) : sweepF k st = st := by
  cases k with
  | zero => rfl
  | succ k =>
    show (match st.sweep.getLast? with | none => st | some j => sweepF k (sweepOne { st with sweep := st.sweep.dropLast } j)) = _
    rw [hg]; rfl
theorem sweepF_sw : ∀ (k : Nat) (st : St), st.sweep.length ≤ k → st.live.Nodup → (st.white = 0 ∨ st.white = 1) → st.total = (st.live.map st.size).sum → Sw st (sweepF k st) := by
  intro k
  induction k with
  | zero =>
    intro st hk nd hw ht
    have hnil : st.sweep = [] := List.length_eq_zero_iff.mp (by (first | lia | omega))
    rw [sweepF_nil' hnil]
    refine ⟨rfl, hnil, fun j => ?_, nd, fun j => ?_, ht⟩
    · rw [hnil]; simp
    · rw [hnil]; simp
  | succ k ih =>
    intro st hk nd hw ht
    cases hgl : st.sweep.getLast? with
    | none =>
      have hnil : st.sweep = [] := List.getLast?_eq_none_iff.mp hgl
      rw [sweepF_nil' hnil]
      refine ⟨rfl, hnil, fun j => ?_, nd, fun j => ?_, ht⟩
      · rw [hnil]; simp
      · rw [hnil]; simp
    | some i =>
      have hg := last_split hgl
      generalize st.sweep.dropLast = l at hg
      rw [sweepF_step' hg]
      obtain ⟨s1, s2, s3, s4, s5, s6⟩ := sweepOne_facts (l := l) (i := i) nd ht
      generalize sweepOne (st.setSweep l) i = a at s1 s2 s3 s4 s5 s6 ⊢
      have hln : st.sweep.length = l.length + 1 := by rw [hg]; simp
      have r := ih a (by rw [s2]; (first | lia | omega)) s4 (by rw [s1.white]; exact hw) (by rw [s6, s1.size])
      have hmem : ∀ j, j ∈ st.sweep ↔ j ∈ l ∨ j = i := fun j => by rw [hg]; simp
      have hdead : ∀ j, j ∈ a.live → (a.dead j ↔ (j ≠ i ∧ st.dead j)) := fun j hj => by
        have h5 := s5 j
        have hjl := ((s3 j).mp hj).1
        simp only [dead_def]
        rw [s1.white]
        by_cases e : j = i
        · have hnd : ¬ st.dead j := fun h => ((s3 j).mp hj).2 ⟨e, h⟩
          rw [h5, if_pos ⟨e, hjl⟩, if_neg hnd]
          constructor
          · intro h; rcases h with h | h
            · (first | lia | omega)
            · exact absurd rfl h.2
          · intro h; exact absurd e h.1
        · rw [h5, if_neg fun h => e h.1]
          exact ⟨fun h => ⟨e, h⟩, fun h => h.2⟩
      refine ⟨s1.trans r.same, r.sweep, fun j => ?_, r.nd, fun j => ?_, by rw [r.total, s1.size]⟩
      · rw [r.live, s2, hmem]
        constructor
        · rintro ⟨h1, h2⟩
          refine ⟨((s3 j).mp h1).1, ?_⟩
          rintro ⟨h3, h4⟩
          by_cases e : j = i
          · exact ((s3 j).mp h1).2 ⟨e, h4⟩
          · rcases h3 with h3 | h3
            · exact h2 ⟨h3, (hdead j h1).mpr ⟨e, h4⟩⟩
            · exact e h3
        · rintro ⟨h1, h2⟩
          have hj : j ∈ a.live := (s3 j).mpr ⟨h1, fun h => h2 ⟨.inr h.1, h.2⟩⟩
          refine ⟨hj, ?_⟩
          rintro ⟨h3, h4⟩
          exact h2 ⟨.inl h3, ((hdead j hj).mp h4).2⟩
      · rw [r.mark, s2]
        by_cases hj : j ∈ a.live
        · have hjl := ((s3 j).mp hj).1
          by_cases e : j = i
          · have hnd : ¬ st.dead j := fun h => ((s3 j).mp hj).2 ⟨e, h⟩
            have hna : ¬ a.dead j := fun h => ((hdead j hj).mp h).1 e
            rw [if_pos (show j ∈ st.sweep ∧ j ∈ st.live from ⟨(hmem j).mpr (.inr e), hjl⟩), if_neg hnd]
            split
            · first | (rw [if_neg hna, s1.white]) | exact s1.white
            · rw [s5, if_pos ⟨e, hjl⟩, if_neg hnd]
          · by_cases h3 : j ∈ l
            · rw [if_pos ⟨h3, hj⟩, if_pos (show j ∈ st.sweep ∧ j ∈ st.live from ⟨(hmem j).mpr (.inl h3), hjl⟩), s1.white]
              by_cases hd : st.dead j
              · rw [if_pos hd, if_pos ((hdead j hj).mpr ⟨e, hd⟩)]
              · rw [if_neg hd, if_neg fun h => hd ((hdead j hj).mp h).2]
            · rw [if_neg fun h => h3 h.1, if_neg (show ¬ (j ∈ st.sweep ∧ j ∈ st.live) from fun h => by rcases (hmem j).mp h.1 with h | h; exact h3 h; exact e h), s5, if_neg fun h => e h.1]
        · rw [if_neg fun h => hj h.2, s5]
          by_cases hjl : j ∈ st.live
          · have : j = i ∧ st.dead j := by
              by_cases h : j = i ∧ st.dead j
              · exact h
              · exact absurd ((s3 j).mpr ⟨hjl, h⟩) hj
            rw [if_pos ⟨this.1, hjl⟩, if_pos (show j ∈ st.sweep ∧ j ∈ st.live from ⟨(hmem j).mpr (.inr this.1), hjl⟩)]
          · rw [if_neg fun h => hjl h.2, if_neg (show ¬ (j ∈ st.sweep ∧ j ∈ st.live) from fun h => hjl h.2)]
end

section
open PySem PySem.W PySem.Calls PyProof.Rows
noncomputable def TurnEnd (h₀ : Heap) (L : Addr) (J : (Str → Option Value) → List (Addr × Obj) → Prop) (I : Addr) (io : Obj) (s₁ : Shared) (Q : Flow → Shared → Prop) (f : Flow) (s₂ : Shared) : Prop :=
  match f with
  | .ret v => Q (.ret v) s₂
  | .brk => Q .next s₂
  | _ => ∃ h' tk' m' news', s₂ = ⟨h', s₁.gens, s₁.drawn, tk', s₁.os⟩ ∧ Fr h₀ L h' m' ∧ News h₀ L h' ((I, io) :: news') ∧ (∀ p ∈ news', p.1 ≠ I) ∧ J m' news'
section
variable {prog : Program} {w : World} {A : Around} {E : Value → Shared → Prop} {s : Shared} {env : Env} {h₀ : Heap} {x : Str} {body : List Stmt} {Q : Flow → Shared → Prop}
theorem iter_W {l : Addr} {vs : List Value} {kk : Nat} {m₀ : Str → Option Value} {news : List (Addr × Obj)} (J : Nat → (Str → Option Value) → List (Addr × Obj) → Prop)
    (hh : A.handled = none) (F : Fr h₀ env.locals s.heap m₀) (N : News h₀ env.locals s.heap news) (hJ : ∀ i m₁ news₁, J i m₁ news₁ → (l, W.listOf vs.toArray kk) ∈ news₁) (h0 : J 0 m₀ news)
    (turn : ∀ i v m₁ news₁ I io h tk, vs[i]? = some v → J i m₁ news₁ → (∀ p ∈ news₁, p.1 ≠ I) → Fr h₀ env.locals h (fun y => if y = x then some v else m₁ y) → News h₀ env.locals h ((I, io) :: news₁) →
      wpAny (model prog w) A (execs body env) (TurnEnd h₀ env.locals (J (i + 1)) I io s Q) E { s with heap := h, toks := tk })
    (done : ∀ m₁ news₁ h tk, J vs.length m₁ news₁ → Fr h₀ env.locals h m₁ → News h₀ env.locals h news₁ → Q .next { s with heap := h, toks := tk }) :
    wpAny (model prog w) A (pyIter (.ref l)) (fun it s₂ => LoopAtV prog w A h₀ env x body Q E it s₂) E s := by
  have hm := hJ 0 m₀ news h0
  have hl := (N _ hm).1
  have hls : s.heap.IsList l vs.toArray := ⟨_, hl, rfl, kk, rfl⟩
  have hlt : l < s.heap.objs.size := Heap.lt_size hl
  have hne : l ≠ s.heap.objs.size := Nat.ne_of_lt hlt
  refine wpAny_pyIter_list hls ?_
  have Wk := Walks.list (prog := prog) (w := w) hh s.heap.objs.size l hne vs.toArray
  rw [List.size_toArray] at Wk
  let J' : Nat → (Str → Option Value) → List (Addr × Obj) → Prop := fun i m₁ news₁ => J i m₁ news₁
  refine ⟨_, _, _, vs.length, _, _, m₀, news, J', rfl, Wk, ?_, ?_, ?_, ⟨⟨_, Heap.get?_push_size _ rfl, rfl, rfl⟩, hls.at fun o e => Heap.get?_push_of_some _ e⟩, F.push _, (fun p hp => ⟨Heap.get?_push_of_some _ (N p hp).1, (N p hp).2⟩), h0, ?_, ?_⟩
  · intro hq
    rcases List.mem_cons.mp hq with e | hm'
    · exact absurd F.ns.lt (e ▸ Nat.lt_irrefl _)
    · exact (N (l, W.listOf vs.toArray kk) hm).2.1 (List.mem_singleton.mp hm').symm
  · intro b hb
    rw [List.mem_singleton.mp hb]
    exact next_is_new F
  · intro p hp hI
    exact absurd (Heap.lt_size (N p hp).1) ((List.mem_singleton.mp hI) ▸ Nat.lt_irrefl _)
  · rintro i v m₁ news₁ s₁ own ⟨hh', tk', rfl⟩ hin hP hJi hoff hown hownget hall hst F₁ N₁
    have hfreshI : h₀.get? s.heap.objs.size = none := next_is_new F
    obtain ⟨oI, hI, _⟩ := hst.1
    have mI : (s.heap.objs.size, oI) ∈ own := hall _ (by simp) hfreshI _ hI
    have hoff' : ∀ p ∈ news₁, p.1 ≠ s.heap.objs.size := fun p hp e => hoff p hp (by rw [e]; exact .head _)
    have N₂ : News h₀ env.locals hh' ((s.heap.objs.size, oI) :: news₁) := fun p hp => by
      rcases List.mem_cons.mp hp with rfl | hp
      · exact N₁ _ (List.mem_append_left _ mI)
      · exact N₁ p (List.mem_append_right _ hp)
    refine wpAny_mono (turn i v m₁ news₁ _ oI hh' tk' (by simpa using hP) hJi hoff' F₁ N₂) (fun f s₂ p => ?_) fun _ _ e => e
    have fin : (∃ h' tk' m' news', s₂ = ⟨h', s.gens, s.drawn, tk', s.os⟩ ∧ Fr h₀ env.locals h' m' ∧ News h₀ env.locals h' ((s.heap.objs.size, oI) :: news') ∧ (∀ p ∈ news', p.1 ≠ s.heap.objs.size) ∧ J (i + 1) m' news') →
        LoopStepU h₀ env.locals [s.heap.objs.size] own (J' (i + 1)) { s with heap := hh', toks := tk' } .next s₂ := by
      rintro ⟨h', tk, m', news', rfl, F', N', ho, hm⟩
      refine ⟨rfl, h', tk, m', news', rfl, F', fun p hp => ?_, fun p hp hq => ho p hp (List.mem_singleton.mp hq), hm⟩
      rcases List.mem_append.mp hp with h1 | h1
      · have a1 := hownget p h1
        rcases List.mem_cons.mp (hown p h1) with e | e
        · rw [e, hI] at a1
          have : p = (s.heap.objs.size, oI) := Prod.ext e (Option.some.inj a1).symm
          rw [this]; exact N' _ (.head _)
        · have e := List.mem_singleton.mp e
          have b1 := (N₁ _ (List.mem_append_right _ (hJ i m₁ news₁ hJi))).1
          rw [e] at a1
          have e2 := a1.symm.trans b1
          have : p = (l, W.listOf vs.toArray kk) := Prod.ext e (Option.some.inj e2)
          rw [this]
          exact N' _ (.tail _ (hJ _ _ _ hm))
      · exact N' p (.tail _ h1)
    cases f with
    | ret v => exact .ret p
    | brk => exact .brk p
    | next => exact .next (fin p)
    | cont => exact .cont (fin p)
  · rintro h' tk m' news' F' N' _ hJn
    exact done m' news' h' tk hJn F' N'
end
/-- a turn of a while, its end -/
noncomputable def WhEnd (h₀ : Heap) (L : Addr) (s : Shared) (J : Nat → (Str → Option Value) → List (Addr × Obj) → Prop) (n : Nat) (Q : Flow → Shared → Prop) (f : Flow) (s₃ : Shared) : Prop :=
  match f with
  | .ret v => Q (.ret v) s₃
  | .brk => Q .next s₃
  | _ => ∃ h' tk m₂ news₂ n', s₃ = ⟨h', s.gens, s.drawn, tk, s.os⟩ ∧ Fr h₀ L h' m₂ ∧ News h₀ L h' news₂ ∧ n' < n ∧ J n' m₂ news₂
section
variable {prog : Program} {w : World} {A : Around} {E : Value → Shared → Prop} {s : Shared} {env : Env} {h₀ : Heap} {L : Addr} {Q : Flow → Shared → Prop}
theorem while_W {test : Expr} {body : List Stmt} {pos : Pos} {m : Str → Option Value} {news : List (Addr × Obj)} (J : Nat → (Str → Option Value) → List (Addr × Obj) → Prop) {n₀ : Nat}
    (F : Fr h₀ L s.heap m) (N : News h₀ L s.heap news) (hJ : J n₀ m news)
    (turn : ∀ n m₁ news₁ h₁ tk₁, Fr h₀ L h₁ m₁ → News h₀ L h₁ news₁ → J n m₁ news₁ →
      wpAny (model prog w) A (isTrue test env (eval test env)) (fun b s₂ =>
        if b = true then wpAny (model prog w) A (execs body env) (WhEnd h₀ L s J n Q) E s₂ else Q .next s₂) E { s with heap := h₁, toks := tk₁ })
    (hE : PassesOwn (model prog w) A env E := by passes_own) :
    wpAny (model prog w) A (exec (.While test body [] pos) env) Q E s := by
  refine wpAny_While (codeAny_whileLoop (fun n s' => ∃ h₁ tk₁ m₁ news₁, s' = { s with heap := h₁, toks := tk₁ } ∧ Fr h₀ L h₁ m₁ ∧ News h₀ L h₁ news₁ ∧ J n m₁ news₁) ?_ n₀ ⟨s.heap, s.toks, m, news, rfl, F, N, hJ⟩)
  rintro n s' ⟨h₁, tk₁, m₁, news₁, rfl, F₁, N₁, J₁⟩
  refine wpAny_mono (turn n m₁ news₁ h₁ tk₁ F₁ N₁ J₁) (fun b s₂ h₂ => ?_) hE
  cases b with
  | false =>
    simp only [Bool.false_eq_true, if_false] at h₂ ⊢
    exact wpAny_execs_nil h₂
  | true =>
    simp only [if_true] at h₂ ⊢
    refine wpAny_mono h₂ (fun f s₃ h₃ => ?_) hE
    cases f with
    | ret v => exact h₃
    | brk => exact h₃
    | next =>
      obtain ⟨h', tk, m₂, news₂, n', rfl, F₂, N₂, hn, J₂⟩ := h₃
      exact ⟨n', hn, h', tk, m₂, news₂, rfl, F₂, N₂, J₂⟩
    | cont =>
      obtain ⟨h', tk, m₂, news₂, n', rfl, F₂, N₂, hn, J₂⟩ := h₃
      exact ⟨n', hn, h', tk, m₂, news₂, rfl, F₂, N₂, J₂⟩
end
end

section
open PySem PySem.W PyProof.Rows
/-- while marking goes on -/
structure Ph1 (k : Nat) (st : St) : Prop where
  w : ∀ i ∈ st.live, st.mark i ≠ 1 - st.white
  b : ∀ i ∈ st.live, st.mark i = 3 → ∀ c ∈ st.edges i, 2 ≤ st.mark c
  g : ∀ i ∈ st.live, st.mark i = 2 → i ∈ st.grey ∨ i ∈ st.again
  r : 2 ≤ st.mark 1
  s : whites st + st.grey.length ≤ st.live.length
  a : whites st + st.grey.length + st.again.length ≤ 20 + 3 * k
/-- while sweeping goes on -/
structure Ph2 (st : St) : Prop where
  l : ∀ i ∈ st.live, st.mark i = st.white ∨ i ∈ st.sweep
  r : st.mark 1 ≠ 1 - st.white
  c : ∀ i ∈ st.live, st.mark i ≠ 1 - st.white → ∀ c ∈ st.edges i, st.mark c ≠ 1 - st.white
/-- what holds between the steps; fr: what was freed -/
structure InvF (k : Nat) (fr : List Nat) (st : St) : Prop where
  wf : Wf st
  n1 : 1 ≤ st.n
  k12 : k ≤ 12
  nk : st.n ≤ 3 + k
  ek : ∀ i, st.ok i → (st.edges i).length ≤ 3 + k
  ak : st.again.length ≤ 20 + 3 * k
  roots : st.roots = [1]
  one : 1 ∈ st.live
  perm : (st.live ++ fr).Perm (upTo st.n)
  tot : st.total = (st.live.map st.size).sum
  wh : st.white = 0 ∨ st.white = 1
  ph : st.phase = 0 ∨ st.phase = 1 ∨ st.phase = 2 ∨ st.phase = 3
  clo : ∀ i ∈ st.live, ∀ c ∈ st.edges i, c ∈ st.live
  lm : ∀ i ∈ st.live, 0 ≤ st.mark i ∧ st.mark i ≤ 3
  fm : ∀ i ∈ fr, st.mark i = 4
  gl : ∀ i ∈ st.grey, i ∈ st.live ∧ st.mark i = 2
  gn : st.grey.Nodup
  al : ∀ i ∈ st.again, i ∈ st.live ∨ (st.phase ≠ 1 ∧ st.ok i)
  sl : st.sweep.length ≤ 15
  g0 : st.phase ≠ 1 → st.grey = []
  p03 : st.phase = 0 ∨ st.phase = 3 → ∀ i ∈ st.live, st.mark i = st.white
  p1 : st.phase = 1 → Ph1 k st
  p2 : st.phase = 2 → Ph2 st
section
variable {k : Nat} {fr : List Nat} {st : St}
theorem InvF.nd (h : InvF k fr st) : (st.live ++ fr).Nodup := h.perm.symm.nodup (nodup_upTo _)
theorem InvF.lnd (h : InvF k fr st) : st.live.Nodup := (List.nodup_append.mp h.nd).1
theorem InvF.apart (h : InvF k fr st) {i : Nat} (hl : i ∈ st.live) (hf : i ∈ fr) : False := (List.nodup_append.mp h.nd).2.2 i hl i hf rfl
theorem InvF.lok (h : InvF k fr st) {i : Nat} (hl : i ∈ st.live) : st.ok i := mem_upTo.mp (h.perm.mem_iff.mp (List.mem_append_left _ hl))
theorem InvF.split (h : InvF k fr st) {i : Nat} (hi : st.ok i) : i ∈ st.live ∨ i ∈ fr := List.mem_append.mp (h.perm.mem_iff.mpr (mem_upTo.mpr hi))
theorem InvF.llen (h : InvF k fr st) : st.live.length ≤ st.n := by
  have := h.perm.length_eq
  rw [List.length_append] at this; simp [upTo] at this; (first | lia | omega)
theorem InvF.whites_le (h : InvF k fr st) : whites st ≤ st.live.length := by
  unfold whites
  refine sub_len ((nodup_upTo _).sublist List.filter_sublist) fun x hx => ?_
  obtain ⟨h1, h2⟩ := List.mem_filter.mp hx
  rcases h.split (mem_upTo.mp h1) with h3 | h3
  · exact h3
  · rw [h.fm x h3] at h2; simp at h2
theorem InvF.glen (h : InvF k fr st) : st.grey.length ≤ st.n := Nat.le_trans (sub_len h.gn fun x hx => (h.gl x hx).1) h.llen
theorem InvF.wg (h : InvF k fr st) : Wg st := by
  have h1 := h.whites_le
  have h2 := h.glen
  have h3 := h.llen
  have h4 := h.wf.small
  have h5 := h.ak
  have h6 := h.k12
  refine ⟨h.wf, fun i hi => h.lok (h.gl i hi).1, fun i hi => ?_, fun i hi => ?_, by (first | lia | omega)⟩
  · rcases h.al i hi with h7 | h7
    · exact h.lok h7
    · exact h7.2
  · rw [h.roots] at hi; rw [List.mem_singleton.mp hi]; exact h.lok h.one
theorem InvF.tri (h : InvF k fr st) (hp : st.phase = 1) : Tri st := by
  have p := h.p1 hp
  refine ⟨fun i hi hok => ?_, fun i hi hok => ?_⟩
  · rcases h.split hok with h1 | h1
    · exact p.b i h1 hi
    · rw [h.fm i h1] at hi; (first | lia | omega)
  · rcases h.split hok with h1 | h1
    · exact p.g i h1 hi
    · rw [h.fm i h1] at hi; (first | lia | omega)
theorem InvF.fi (h : InvF k fr st) (hp : st.phase = 1) : Fi st (finish st) :=
  finish_fi h.wg (h.tri hp) (fun j hj => by rw [(h.gl j hj).2]; (first | lia | omega)) fun j hj => by
    rcases h.al j hj with h7 | h7
    · have := (h.lm j h7).2; (first | lia | omega)
    · exact absurd hp h7.1
theorem InvF.turn (h : InvF k fr st) {b : St} (s : SameA st b) (p : Int) (hp : p = 0 ∨ p = 1 ∨ p = 2 ∨ p = 3)
    (ak : b.again.length ≤ 20 + 3 * k) (lm : ∀ i ∈ st.live, 0 ≤ b.mark i ∧ b.mark i ≤ 3) (fm : ∀ i ∈ fr, b.mark i = 4) (gl : ∀ i ∈ b.grey, i ∈ st.live ∧ b.mark i = 2) (gn : b.grey.Nodup)
    (al : ∀ i ∈ b.again, i ∈ st.live ∨ (p ≠ 1 ∧ st.ok i)) (g0 : p ≠ 1 → b.grey = []) (p03 : p = 0 ∨ p = 3 → ∀ i ∈ st.live, b.mark i = st.white) (p1 : p = 1 → Ph1 k b) (p2 : p = 2 → Ph2 b) : InvF k fr (b.setPhase p) where
  wf := by have := s.wf h.wf; exact ⟨this.small, this.sort, this.size, this.edge, this.elen⟩
  n1 := by show 1 ≤ b.n; rw [s.n]; exact h.n1
  k12 := h.k12
  nk := by show b.n ≤ _; rw [s.n]; exact h.nk
  ek := fun i hi => by show (b.edges i).length ≤ _; rw [s.edges]; exact h.ek i ((s.ok i).mp hi)
  ak := ak
  roots := by show b.roots = _; rw [s.roots]; exact h.roots
  one := by show 1 ∈ b.live; rw [s.live]; exact h.one
  perm := by show (b.live ++ fr).Perm (upTo b.n); rw [s.live, s.n]; exact h.perm
  tot := by show b.total = (b.live.map b.size).sum; rw [s.live, s.total, s.size]; exact h.tot
  wh := by show b.white = 0 ∨ b.white = 1; rw [s.white]; exact h.wh
  ph := hp
  clo := by show ∀ i ∈ b.live, ∀ c ∈ b.edges i, c ∈ b.live; rw [s.live, s.edges]; exact h.clo
  lm := by show ∀ i ∈ b.live, _; rw [s.live]; exact lm
  fm := fm
  gl := by show ∀ i ∈ b.grey, i ∈ b.live ∧ _; rw [s.live]; exact gl
  gn := gn
  al := fun i hi => by
    show i ∈ b.live ∨ _
    rw [s.live]
    rcases al i hi with h1 | h1
    · exact .inl h1
    · exact .inr ⟨h1.1, (s.ok i).mpr h1.2⟩
  sl := by show b.sweep.length ≤ 15; rw [s.sweep]; exact h.sl
  g0 := g0
  p03 := fun hq i hi => by
    show b.mark i = b.white
    rw [s.white]
    exact p03 hq i (by rw [← s.live]; exact hi)
  p1 := fun hq => by have r := p1 hq; exact ⟨r.w, r.b, r.g, r.r, r.s, r.a⟩
  p2 := fun hq => by have r := p2 hq; exact ⟨r.l, r.r, r.c⟩
theorem InvF.setFreed (h : InvF k fr st) (l : List Nat) : InvF k fr (st.setFreed l) :=
  ⟨⟨h.wf.small, h.wf.sort, h.wf.size, h.wf.edge, h.wf.elen⟩, h.n1, h.k12, h.nk, h.ek, h.ak, h.roots, h.one, h.perm, h.tot, h.wh, h.ph, h.clo, h.lm, h.fm, h.gl, h.gn, h.al, h.sl, h.g0, h.p03,
    fun hq => by have r := h.p1 hq; exact ⟨r.w, r.b, r.g, r.r, r.s, r.a⟩, fun hq => by have r := h.p2 hq; exact ⟨r.l, r.r, r.c⟩⟩
theorem InvF.forget_wg (h : InvF k fr st) : Wg (forget st) := by
  have h1 := h.wg
  have h2 := h1.sum
  refine ⟨⟨h.wf.small, h.wf.sort, h.wf.size, h.wf.edge, h.wf.elen⟩, (fun _ h => nomatch h), (fun _ h => nomatch h), h1.roots, ?_⟩
  show whites st + 0 + 0 ≤ 900
  (first | lia | omega)
theorem forget_same (st : St) : SameA st (forget st) := rfl
/-- a beginning -/
theorem InvF.begins (h : InvF k fr st) (hp : st.phase = 0 ∨ st.phase = 3) : Mk (forget st) (begin st) ∧ InvF k fr ((begin st).setPhase 1) := by
  have hwg := h.forget_wg
  have hrok : ∀ c ∈ st.roots, (forget st).ok c := hwg.roots
  obtain ⟨m, m2⟩ := markAll_mk hwg.wf hrok
  have hwg2 : Wg (markAll (forget st) st.roots) := foldF_wg 20 _ hwg hrok
  have hsum : whites (markAll (forget st) st.roots) + (markAll (forget st) st.roots).grey.length ≤ whites (forget st) + (forget st).grey.length := foldF_sum 20 _ _ hwg.wf hrok
  have hnd := markAll_nd st.roots (forget st) (fun _ h => nomatch h) .nil
  have hag : (markAll (forget st) st.roots).again = [] := SameM.again m.same
  unfold begin
  generalize markAll (forget st) st.roots = b at m m2 hwg2 hsum hnd hag ⊢
  refine ⟨m, ?_⟩
  have hs : SameA st b := (forget_same st).trans m.same.a
  have hw := h.wh
  have hm : ∀ i ∈ st.live, st.mark i = st.white := h.p03 (by (first | lia | omega))
  have hnew : ∀ i ∈ st.live, b.mark i = st.white ∨ b.mark i = 2 ∨ b.mark i = 3 := fun i hi => by
    have := m.new i (by show st.mark i < 2; rw [hm i hi]; (first | lia | omega))
    rw [← hm i hi]; exact this
  have hlow : ∀ j, st.ok j → st.mark j < 2 → j ∈ st.live := fun j hj h2 => by
    rcases h.split hj with h3 | h3
    · exact h3
    · rw [h.fm j h3] at h2; (first | lia | omega)
  have hwl := h.whites_le
  have hwl2 : whites (forget st) = whites st := rfl
  have hgr0 : (forget st).grey.length = 0 := rfl
  have hll := h.llen
  have hsm := h.wf.small
  have hmono : whites b ≤ whites (forget st) := by (first | lia | omega)
  refine h.turn hs 1 (by (first | lia | omega)) (by rw [hag]; simp) (fun i hi => ?_) (fun i hi => ?_) (fun i hi => ?_) hnd.2 (by rw [hag]; exact fun _ h => nomatch h) (by (first | lia | omega)) (by (first | lia | omega)) (fun _ => ?_) (by (first | lia | omega))
  · rcases hnew i hi with e | e | e <;> rw [e] <;> (first | lia | omega)
  · rw [m.old i (by show 2 ≤ st.mark i; rw [h.fm i hi]; (first | lia | omega))]; exact h.fm i hi
  · rcases m.greyIn i hi with h1 | ⟨h1, h2⟩
    · cases h1
    · exact ⟨hlow i ((hs.ok i).mp (hwg2.grey i hi)) h1, h2⟩
  · refine ⟨fun i hi => ?_, fun i hi h3 c hc => ?_, fun i hi h2 => ?_, ?_, ?_, ?_⟩
    · rw [hs.live] at hi; rw [hs.white]
      rcases hnew i hi with e | e | e <;> rw [e] <;> (first | lia | omega)
    · rw [hs.live] at hi; rw [hs.edges] at hc
      exact m.black i (by show st.mark i < 2; rw [hm i hi]; (first | lia | omega)) h3 c hc
    · rw [hs.live] at hi
      replace hi := hi
      exact .inl (m.greyNew i (by show st.mark i < 2; rw [hm i hi]; (first | lia | omega)) h2)
    · exact m2 1 (by rw [h.roots]; exact .head _)
    · rw [hs.live]; (first | lia | omega)
    · rw [hag]; show _ + 0 ≤ _; (first | lia | omega)
/-- a propagate -/
theorem InvF.props (h : InvF k fr st) (hp : st.phase = 1) {l : List Nat} {i : Nat} (hg : st.grey = l ++ [i]) : InvF k fr (propAt st l i) := by
  have hwg := h.wg
  have p := propAt_pr hwg hg
  have hwg2 := (propAt_wg hwg hg).1
  have ht := Tri.prop st l i (h.tri hp) hwg hg
  have hsum := propAt_sum3 hwg hg
  have q := h.p1 hp
  generalize propAt st l i = b at p hwg2 ht hsum ⊢
  have hs := p.same
  have hil : i ∈ st.live := (h.gl i (by rw [hg]; simp)).1
  have him : st.mark i = 2 := (h.gl i (by rw [hg]; simp)).2
  have hnd := h.gn
  rw [hg, List.nodup_append] at hnd
  replace hnd := hnd
  have hself : b.mark i = 2 ∨ b.mark i = 3 := by rw [p.self]; split <;> simp
  have hw := h.wh
  have hsum2 := p.sum
  have hqs := q.s
  have hqa := q.a
  have hlow : ∀ j, st.ok j → st.mark j < 2 → j ∈ st.live := fun j hj h2 => by
    rcases h.split hj with h3 | h3
    · exact h3
    · rw [h.fm j h3] at h2; (first | lia | omega)
  have hph : b.phase = 1 := by rw [hs.phase]; exact hp
  have e : b.setPhase 1 = b := by cases b; simp only at hph; subst hph; rfl
  rw [← e]
  refine h.turn hs 1 (by (first | lia | omega)) (by (first | lia | omega)) (fun j hj => ?_) (fun j hj => ?_) (fun j hj => ?_) ?_ (fun j hj => ?_) (by (first | lia | omega)) (by (first | lia | omega)) (fun _ => ?_) (by (first | lia | omega))
  · have hl := h.lm j hj
    by_cases hne : j = i
    · subst hne; (first | lia | omega)
    · by_cases h2 : st.mark j < 2
      · rcases p.new j hne h2 with e | e | e <;> rw [e] <;> (first | lia | omega)
      · rw [p.old j hne (by (first | lia | omega))]; exact hl
  · have hne : j ≠ i := by rintro rfl; exact h.apart hil hj
    have hm := h.fm j hj
    rw [p.old j hne (by (first | lia | omega))]; exact hm
  · rcases p.greyIn j hj with h1 | ⟨h1, h2, h3⟩
    · have h4 := h.gl j (by rw [hg]; simp [h1])
      have hne : j ≠ i := hnd.2.2 j h1 i (by simp)
      exact ⟨h4.1, by rw [p.old j hne (by (first | lia | omega))]; exact h4.2⟩
    · exact ⟨hlow j ((hs.ok j).mp (hwg2.grey j hj)) h2, h3⟩
  · exact p.greyNd hnd.1 fun j hj => by have := (h.gl j (by rw [hg]; simp [hj])).2; (first | lia | omega)
  · rw [p.again] at hj
    replace hj := hj
    left
    have key : ∀ j ∈ st.again, j ∈ st.live := fun j hj => by
      rcases h.al j hj with h1 | h1
      · exact h1
      · exact absurd hp h1.1
    split at hj
    · rcases List.mem_append.mp hj with h1 | h1
      · exact key j h1
      · rw [List.mem_singleton.mp h1]; exact hil
    · exact key j hj
  · refine ⟨fun j hj => ?_, fun j hj h3 c hc => ?_, fun j hj h2 => ?_, ?_, ?_, ?_⟩
    · rw [hs.live] at hj; rw [hs.white]
      have hqw := q.w j hj
      by_cases hne : j = i
      · subst hne; (first | lia | omega)
      · by_cases h2 : st.mark j < 2
        · rcases p.new j hne h2 with e | e | e <;> rw [e] <;> (first | lia | omega)
        · rw [p.old j hne (by (first | lia | omega))]; exact hqw
    · rw [hs.live] at hj
      replace hj := hj
      exact ht.b j h3 ((hs.ok j).mpr (h.lok hj)) c hc
    · rw [hs.live] at hj
      replace hj := hj
      exact ht.g j h2 ((hs.ok j).mpr (h.lok hj))
    · exact p.up q.r
    · rw [hs.live]; (first | lia | omega)
    · (first | lia | omega)
/-- the end of a marking -/
theorem InvF.atoms (h : InvF k fr st) (hp : st.phase = 1) : InvF k fr (atomic st) := by
  have F := h.fi hp
  have q := h.p1 hp
  unfold atomic flip
  generalize finish st = f at F ⊢
  have hs := F.sd.same
  have hw := h.wh
  have hqa := q.a
  have hsum := F.sum
  have hnew : ∀ i ∈ st.live, f.mark i = st.white ∨ f.mark i = 2 ∨ f.mark i = 3 := fun i hi => by
    have hl := h.lm i hi
    have hqw := q.w i hi
    by_cases h2 : st.mark i < 2
    · have e : st.mark i = st.white := by (first | lia | omega)
      rw [← e]; exact F.sd.new i h2
    · exact .inr (F.sd.range i (by (first | lia | omega)))
  have hone : 2 ≤ f.mark 1 := F.roots 1 (by rw [h.roots]; exact .head _)
  have hwf := hs.wf h.wf
  refine ⟨⟨hwf.small, hwf.sort, hwf.size, hwf.edge, hwf.elen⟩, ?_, h.k12, ?_, ?_, ?_, ?_, ?_, ?_, ?_, ?_, .inr (.inr (.inl rfl)), ?_, ?_, ?_, ?_, ?_, ?_, ?_, ?_, ?_, ?_, ?_⟩
  · show 1 ≤ f.n; rw [hs.n]; exact h.n1
  · show f.n ≤ _; rw [hs.n]; exact h.nk
  · intro i hi; show (f.edges i).length ≤ _; rw [hs.edges]; exact h.ek i ((hs.ok i).mp hi)
  · show f.again.length ≤ _; (first | lia | omega)
  · show f.roots = _; rw [hs.roots]; exact h.roots
  · show 1 ∈ f.live; rw [hs.live]; exact h.one
  · show (f.live ++ fr).Perm (upTo f.n); rw [hs.live, hs.n]; exact h.perm
  · show f.total = (f.live.map f.size).sum; rw [hs.live, hs.total, hs.size]; exact h.tot
  · show 1 - f.white = 0 ∨ 1 - f.white = 1; rw [hs.white]; (first | lia | omega)
  · show ∀ i ∈ f.live, ∀ c ∈ f.edges i, c ∈ f.live; rw [hs.live, hs.edges]; exact h.clo
  · show ∀ i ∈ f.live, _
    rw [hs.live]
    intro i hi
    show 0 ≤ f.mark i ∧ f.mark i ≤ 3
    rcases hnew i hi with e | e | e <;> rw [e] <;> (first | lia | omega)
  · intro i hi
    show f.mark i = 4
    have := h.fm i hi
    rw [F.sd.four i (by (first | lia | omega))]; exact this
  · show ∀ i ∈ f.grey, _; rw [F.grey]; exact fun _ h => nomatch h
  · show f.grey.Nodup; rw [F.grey]; exact .nil
  · intro i hi
    exact .inr ⟨by show (2 : Int) ≠ 1; (first | lia | omega), F.wg.again i hi⟩
  · show f.live.length ≤ 15; rw [hs.live]; exact Nat.le_trans h.llen h.wf.small
  · intro _; exact F.grey
  · intro hq; exact absurd hq (by show ¬ ((2 : Int) = 0 ∨ (2 : Int) = 3); (first | lia | omega))
  · intro hq; exact absurd hq (by show ¬ ((2 : Int) = 1); (first | lia | omega))
  · intro _
    refine ⟨fun i hi => .inr hi, ?_, ?_⟩
    · show f.mark 1 ≠ 1 - (1 - f.white); rw [hs.white]; (first | lia | omega)
    · show ∀ i ∈ f.live, f.mark i ≠ 1 - (1 - f.white) → ∀ c ∈ f.edges i, f.mark c ≠ 1 - (1 - f.white)
      rw [hs.live, hs.edges, hs.white]
      intro i hi hm c hc
      have : f.mark i = 2 ∨ f.mark i = 3 := by
        rcases hnew i hi with e | e
        · (first | lia | omega)
        · exact e
      have := F.clo i this (h.lok hi) c hc
      (first | lia | omega)
end
end

section
open PySem PySem.W PySem.Calls PyProof.Rows
theorem strEq (a b : String) : (Str.ofString a = Str.ofString b) = (a = b) := by
  refine propext ⟨fun h => ?_, fun h => h ▸ rfl⟩
  rw [Str.ofString_eq_toList, Str.ofString_eq_toList] at h
  have h1 := congrArg (fun s : Str => s.cps.toList) h
  simp only at h1
  have h2 : a.toList = b.toList := (List.map_inj_right (fun x y hxy => Char.toNat_inj.mp hxy)).mp h1
  exact String.toList_inj.mp h2
theorem strBEq (a b : String) : (Str.ofString a == Str.ofString b) = (a == b) := by
  by_cases h : a = b
  · subst h; simp
  · have h' : ¬ (Str.ofString a = Str.ofString b) := by rw [strEq]; exact h
    have e1 : (Str.ofString a == Str.ofString b) = false := beq_eq_false_iff_ne.mpr h'
    have e2 : (a == b) = false := beq_eq_false_iff_ne.mpr h
    rw [e1, e2]
noncomputable def FnO (o : Obj) : Prop := ∃ oc od fd sl, o = ⟨oc, od, .func fd, sl⟩
structure Fns (w : World) (α : Role → Addr) (ω : Role → Obj) : Prop where
  so : ∀ ο δ μ σ st i, Good w α ω ο δ μ σ st → st.ok i → Runs w (α .fso) [.ref (ο i)] 10 80 (ledW α ο δ μ σ st) (fun v news' => news' = ledW α ο δ μ σ st ∧ ∃ t, v = .int (st.sort i) t)
  ch : ∀ ο δ μ σ st i, Good w α ω ο δ μ σ st → Wf st → st.ok i → Runs w (α .fch) [.ref (ο i)] 20 200 (ledW α ο δ μ σ st) (fun v news' => ∃ a k, v = .ref a ∧ news' = (a, W.listOf (refs ο (st.edges i)).toArray k) :: ledW α ο δ μ σ st ∧ Off [(a, W.listOf (refs ο (st.edges i)).toArray k)] (ledW α ο δ μ σ st))
  soF : FnO (ω .fso)
  chF : FnO (ω .fch)
section
variable {w : World} {A : Around} {E : Value → Shared → Prop} {s : Shared} {L : Addr} {h₀ h : Heap} {m : Str → Option Value} {news tmp : List (Addr × Obj)} {name : Str}
  {α : Role → Addr} {ω : Role → Obj} {ο δ : Nat → Addr} {μ : Role → Addr} {σ : Role → Obj} {st : St} {K : Frag}
theorem meth_own_marks {pl : Sem Bool} {Q : Value × List Value → Shared → Prop} (F : Fr h₀ L s.heap m) (X₀ : K.In h₀) (N : News h₀ L s.heap news) (hs : ∀ p ∈ ledW α ο δ μ σ st, p ∈ news) (G : Good w α ω ο δ μ σ st)
    (hg : plainGet K 136 name = true) (hf : findIn K (.ref 136) name = some none) (h : wpAny (model PP w) A (getAttr (.ref (α .marks)) name) (fun v => Q (v, [])) E s) :
    wpAny (model PP w) A (getMethod (.ref (α .marks)) name pl) Q E s := by
  have h1 : (α .marks, instObj 136 (α .marksD)) ∈ news := by
    have := hs _ (mem_led (β := adr α ο δ μ) (σ := σ) (n := st.n) (r := .marks) trivial)
    rwa [show σ .marks = _ from G.sh .marks trivial] at this
  exact kmu_own F X₀ (InstAt.of_news N h1 (hs _ (mem_led (β := adr α ο δ μ) (r := .marksD) trivial))) hg hf h
theorem fnAt_so (G : Good w α ω ο δ μ σ st) (Fn : Fns w α ω) (N : News h₀ L h news) (hs : ∀ p ∈ ledW α ο δ μ σ st, p ∈ news) : FnAt (α .fso) h := by
  have := (N _ (hs _ (mem_led (β := adr α ο δ μ) (σ := σ) (n := st.n) (r := .fso) trivial))).1
  obtain ⟨oc, od, fd, sl, e⟩ := Fn.soF
  rw [show σ .fso = _ from G.sh .fso trivial, e] at this
  exact ⟨oc, od, fd, sl, this⟩
theorem fnAt_ch (G : Good w α ω ο δ μ σ st) (Fn : Fns w α ω) (N : News h₀ L h news) (hs : ∀ p ∈ ledW α ο δ μ σ st, p ∈ news) : FnAt (α .fch) h := by
  have := (N _ (hs _ (mem_led (β := adr α ο δ μ) (σ := σ) (n := st.n) (r := .fch) trivial))).1
  obtain ⟨oc, od, fd, sl, e⟩ := Fn.chF
  rw [show σ .fch = _ from G.sh .fch trivial, e] at this
  exact ⟨oc, od, fd, sl, this⟩
end
theorem if_if {x : Str} {a b : Option Value} {m : Str → Option Value} : (fun y => if y = x then a else (fun y => if y = x then b else m y) y) = fun y => if y = x then a else m y := by
  funext y; by_cases h : y = x <;> simp [h]
theorem if_ii {x : Str} {a b : Option Value} {m : Str → Option Value} : (fun y => if y = x then a else if y = x then b else m y) = fun y => if y = x then a else m y := by
  funext y; by_cases h : y = x <;> simp [h]
/-- a turn that turns the world alone -/
noncomputable def LedEnd (w : World) (α : Role → Addr) (ω : Role → Obj) (ο δ : Nat → Addr) (μ : Role → Addr) (g : Heap) (L : Addr) (x : Str) (m₀ : Str → Option Value) (tm : List (Addr × Obj)) (st' : St) (gens : Array GenState) (drawn : Drawn) (os : OsState) (f : Flow) (s₂ : Shared) : Prop :=
  (f = .next ∨ f = .cont) ∧ ∃ h' tk' σ' u, s₂ = ⟨h', gens, drawn, tk', os⟩ ∧ Fr g L h' (fun y => if y = x then u else m₀ y) ∧ News g L h' (tm ++ ledW α ο δ μ σ' st') ∧ Off tm (ledW α ο δ μ σ' st') ∧ Good w α ω ο δ μ σ' st'
section
variable {w : World} {α : Role → Addr} {ω : Role → Obj} {ο δ : Nat → Addr} {μ : Role → Addr} {σ : Role → Obj} {A : Around} {E : Value → Shared → Prop} {s : Shared} {env : Env} {g : Heap} {x : Str} {body : List Stmt} {Q : Flow → Shared → Prop}
theorem LedEnd.intro {L : Addr} {m₀ : Str → Option Value} {tm : List (Addr × Obj)} {st' : St} {gens : Array GenState} {drawn : Drawn} {os : OsState} {h' : Heap} {tk' : Nat} {σ' : Role → Obj} {u : Option Value}
    (F : Fr g L h' (fun y => if y = x then u else m₀ y)) (N : News g L h' (tm ++ ledW α ο δ μ σ' st')) (o : Off tm (ledW α ο δ μ σ' st')) (G : Good w α ω ο δ μ σ' st') : LedEnd w α ω ο δ μ g L x m₀ tm st' gens drawn os .next ⟨h', gens, drawn, tk', os⟩ :=
  ⟨.inl rfl, h', tk', σ', u, rfl, F, N, o, G⟩
theorem iter_led {l : Addr} {vs : List Value} {kk : Nat} {m₀ : Str → Option Value} {tm : List (Addr × Obj)} (T : Nat → St)
    (hh : A.handled = none) (F : Fr g env.locals s.heap m₀) (N : News g env.locals s.heap (tm ++ ledW α ο δ μ σ (T 0))) (off : Off tm (ledW α ο δ μ σ (T 0))) (G : Good w α ω ο δ μ σ (T 0))
    (hl : ∀ j σ', Good w α ω ο δ μ σ' (T j) → (l, PySem.W.listOf vs.toArray kk) ∈ tm ++ ledW α ο δ μ σ' (T j))
    (turn : ∀ j v σ' I io h tk, vs[j]? = some v → Good w α ω ο δ μ σ' (T j) → Fr g env.locals h (fun y => if y = x then some v else m₀ y) → News g env.locals h (((I, io) :: tm) ++ ledW α ο δ μ σ' (T j)) → Off ((I, io) :: tm) (ledW α ο δ μ σ' (T j)) →
      wpAny (model PP w) A (execs body env) (LedEnd w α ω ο δ μ g env.locals x m₀ ((I, io) :: tm) (T (j + 1)) s.gens s.drawn s.os) E { s with heap := h, toks := tk })
    (done : ∀ σ' u h tk, Good w α ω ο δ μ σ' (T vs.length) → Fr g env.locals h (fun y => if y = x then u else m₀ y) → News g env.locals h (tm ++ ledW α ο δ μ σ' (T vs.length)) → Off tm (ledW α ο δ μ σ' (T vs.length)) → Q .next { s with heap := h, toks := tk }) :
    wpAny (model PP w) A (pyIter (.ref l)) (fun it s₂ => LoopAtV PP w A g env x body Q E it s₂) E s := by
  refine iter_W (l := l) (vs := vs) (kk := kk) (fun j m' nw => ∃ σ' u, m' = (fun y => if y = x then u else m₀ y) ∧ nw = tm ++ ledW α ο δ μ σ' (T j) ∧ Off tm (ledW α ο δ μ σ' (T j)) ∧ Good w α ω ο δ μ σ' (T j)) hh F N ?_ ?_ ?_ ?_
  · rintro j m₁ nw ⟨σ', u, rfl, rfl, _, G'⟩
    exact hl j σ' G'
  · refine ⟨σ, m₀ x, ?_, rfl, off, G⟩
    funext y; by_cases h : y = x <;> simp [h]
  · rintro j v m₁ nw I io h tk hv ⟨σ', u, rfl, rfl, off', G'⟩ hI F' N'
    rw [if_if] at F'
    have offI : Off ((I, io) :: tm) (ledW α ο δ μ σ' (T j)) := fun p hp hq => by
      rcases List.mem_cons.mp hp with rfl | hp
      · obtain ⟨q, hq, e⟩ := List.mem_map.mp hq
        exact hI q (List.mem_append_right _ hq) e
      · exact off' p hp hq
    refine wpAny_mono (turn j v σ' I io h tk hv G' F' N' offI) (fun f s₂ hE => ?_) fun _ _ e => e
    obtain ⟨hf, h', tk', σ'', u', rfl, F₂, N₂, off₂, G₂⟩ := hE
    have fin : ∃ h'' tk'' m' news', (⟨h', s.gens, s.drawn, tk', s.os⟩ : Shared) = ⟨h'', s.gens, s.drawn, tk'', s.os⟩ ∧ Fr g env.locals h'' m' ∧ News g env.locals h'' ((I, io) :: news') ∧ (∀ p ∈ news', p.1 ≠ I) ∧ (∃ σ' u, m' = (fun y => if y = x then u else m₀ y) ∧ news' = tm ++ ledW α ο δ μ σ' (T (j + 1)) ∧ Off tm (ledW α ο δ μ σ' (T (j + 1))) ∧ Good w α ω ο δ μ σ' (T (j + 1))) := by
      refine ⟨h', tk', _, _, rfl, F₂, N₂, ?_, σ'', u', rfl, rfl, fun p hp => off₂ p (.tail _ hp), G₂⟩
      intro p hp e
      rcases List.mem_append.mp hp with h1 | h1
      · exact hI p (List.mem_append_left _ h1) e
      · exact off₂ (I, io) (.head _) (List.mem_map.mpr ⟨p, h1, e⟩)
    rcases hf with rfl | rfl <;> exact fin
  · rintro m₁ nw h tk ⟨σ', u, rfl, rfl, off', G'⟩ F' N'
    exact done σ' u h tk G' F' N' off'
end
/-- a call to be taken by hand -/
noncomputable def Hold (P : Prop) : Prop := P
theorem Hold.mk {P : Prop} (h : Hold P) : P := h
theorem refs_get {f : Nat → Addr} {l : List Nat} {j : Nat} {v : Value} (h : (refs f l)[j]? = some v) : ∃ c, l[j]? = some c ∧ v = .ref (f c) := by
  unfold refs at h
  rw [List.getElem?_map] at h
  cases hc : l[j]? with
  | none => rw [hc] at h; cases h
  | some c => rw [hc] at h; exact ⟨c, rfl, (Option.some.inj h).symm⟩
theorem foldl_take {β : Type} (f : β → Nat → β) (b : β) {l : List Nat} {j : Nat} {c : Nat} (h : l[j]? = some c) : (l.take (j + 1)).foldl f b = f ((l.take j).foldl f b) c := by
  rw [List.take_add_one, h]; simp
theorem so_at {w : World} {α : Role → Addr} {ω : Role → Obj} {ο δ : Nat → Addr} {μ : Role → Addr} {σ : Role → Obj} {st : St} {i : Nat} {c : Int} (Fn : Fns w α ω) (G : Good w α ω ο δ μ σ st) (hi : st.ok i) (hs : st.sort i = c) :
    Runs w (α .fso) [.ref (ο i)] 10 80 (ledW α ο δ μ σ st) (fun v news' => news' = ledW α ο δ μ σ st ∧ ∃ t, v = .int c t) := by
  subst hs; exact Fn.so _ _ _ _ _ _ G hi
theorem setMark_setMark (st : St) (i : Nat) (a b : Int) : (st.setMark i a).setMark i b = st.setMark i b := by
  unfold St.setMark
  congr 1
  funext j
  by_cases h : j = i <;> simp [h]
theorem Runs.callT {w : World} {f : Addr} {args : List Value} {D U : Nat} {tm l : List (Addr × Obj)} {Post : Value → List (Addr × Obj) → Prop} (H : Runs w f args D U l Post)
    {p : Program} {loose : List Str} {mean : ExcName → Option Value} {mg mb : Str → Option Value} {A : Around} {env : Env} {outer : List Env} {A₀ : Around} {base h₀ : Heap} {L : Addr} {m : Str → Option Value} {s : Shared} {Q E : Value → Shared → Prop}
    (off : Off tm l)
    (B : Below A₀ base outer h₀) (F : Fr h₀ L s.heap m) (X : (hd0.heap_1 w.params).In h₀) (N : News h₀ L s.heap (tm ++ l)) (T : Top p loose mean mg mb h₀) (hA : A.frames = some (env :: outer)) (hf : env.frame = some L) (hk : env.scope.kind = .function) (hh : A.handled = none)
    (hd : A.depth + D < recursionLimit) (hu : A.units + U < cLine)
    (k : ∀ r l' h' tk', Fr h₀ L h' m → News h₀ L h' (tm ++ l') → Off tm l' → Post r l' → Q r { s with heap := h', toks := tk' }) :
    wpAny (model PP w) A (PySem.call (.ref f) args) Q E s :=
  H.call B F X (News.sub N fun _ h => List.mem_append_right _ h) T hA hf hk hh hd hu fun r l' h' tk' F' N' kp hP => by
    obtain ⟨a, b⟩ := News.after (News.sub N fun _ h => List.mem_append_left _ h) off kp N'
    exact k r l' h' tk' F' a b hP
section
variable {w : World} {A : Around} {E : Value → Shared → Prop} {s : Shared} {L : Addr} {h₀ h : Heap} {m : Str → Option Value} {news tmp : List (Addr × Obj)} {name : Str}
  {α : Role → Addr} {ω : Role → Obj} {ο δ : Nat → Addr} {μ : Role → Addr} {σ : Role → Obj} {st : St} {K : Frag}
theorem Good.low (G : Good w α ω ο δ μ σ st) {r : Role} (hr : r.ok st.n) : (adr α ο δ μ r == sysModules) = false := by
  have := G.lo r hr
  have e : sysModules = 1 := rfl
  rw [e]
  exact beq_eq_false_iff_ne.mpr (Nat.ne_of_gt this)
theorem adr_grey (l : Addr) : adr α ο δ (upd μ .grey l) = upd (adr α ο δ μ) .grey l := by funext r; cases r <;> rfl
theorem adr_again (l : Addr) : adr α ο δ (upd μ .again l) = upd (adr α ο δ μ) .again l := by funext r; cases r <;> rfl
theorem adr_weak (l : Addr) : adr α ο δ (upd μ .weak l) = upd (adr α ο δ μ) .weak l := by funext r; cases r <;> rfl
theorem adr_sweep (l : Addr) : adr α ο δ (upd μ .sweep l) = upd (adr α ο δ μ) .sweep l := by funext r; cases r <;> rfl
theorem adr_freed (l : Addr) : adr α ο δ (upd μ .freed l) = upd (adr α ο δ μ) .freed l := by funext r; cases r <;> rfl
theorem adr_edge (i : Nat) (l : Addr) : adr α ο δ (upd μ (.edge i) l) = upd (adr α ο δ μ) (.edge i) l := by
  funext r
  by_cases h : r = Role.edge i
  · subst h; rw [upd_self]; show upd μ (.edge i) l (.edge i) = l; rw [upd_self]
  · rw [upd_ne _ _ h]
    cases r <;> first | rfl | (show upd μ (.edge i) l (.edge _) = μ (.edge _); rw [upd_ne _ _ h])
theorem led_move {β : Role → Addr} {σ : Role → Obj} {n : Nat} {r : Role} {l : Addr} {o : Obj} : ∀ p ∈ led (upd β r l) (upd σ r o) n, p ∈ (l, o) :: led β σ n := fun p hp => by
  obtain ⟨x, hx, rfl⟩ := of_led hp
  by_cases e : x = r
  · subst e; rw [upd_self, upd_self]; exact .head _
  · rw [upd_ne _ _ e, upd_ne _ _ e]; exact .tail _ (mem_led hx)
theorem Good.move {st' : St} {μ' : Role → Addr} {r rd : Role} {l : Addr} {o od : Obj} (G : Good w α ω ο δ μ σ st) (hn : st'.n = st.n) (hadr : adr α ο δ μ' = upd (adr α ο δ μ) r l) (hlt : ∀ x, Role.ok st.n x → adr α ο δ μ x < l) (hrd : rd ≠ r)
    (hr : Shape w α ω ο δ μ' st' r o) (hd : Shape w α ω ο δ μ' st' rd od)
    (hne : ∀ x o, x ≠ r → x ≠ rd → Shape w α ω ο δ μ st x o → Shape w α ω ο δ μ' st' x o) : Good w α ω ο δ μ' (upd (upd σ rd od) r o) st' where
  inj := by
    rw [hn, hadr]
    intro a b ha hb e
    by_cases ea : a = r
    · by_cases eb : b = r
      · rw [ea, eb]
      · rw [ea, upd_self, upd_ne _ _ eb] at e
        exact absurd e (Nat.ne_of_gt (hlt b hb))
    · by_cases eb : b = r
      · rw [eb, upd_self, upd_ne _ _ ea] at e
        exact absurd e (Nat.ne_of_lt (hlt a ha))
      · rw [upd_ne _ _ ea, upd_ne _ _ eb] at e
        exact G.inj a b ha hb e
  lo := by
    rw [hn, hadr]
    intro a ha
    by_cases ea : a = r
    · rw [ea, upd_self]; exact Nat.lt_trans (G.lo .cyc trivial) (hlt .cyc trivial)
    · rw [upd_ne _ _ ea]; exact G.lo a ha
  sh := fun x hx => by
    rw [hn] at hx
    by_cases e : x = r
    · subst e; rw [upd_self]; exact hr
    · rw [upd_ne _ _ e]
      by_cases e2 : x = rd
      · subst e2; rw [upd_self]; exact hd
      · rw [upd_ne _ _ e2]; exact hne x _ e e2 (G.sh x hx)
/-- «self.grey = []» and its like: a new list in the place of an old one -/
theorem set_newlist {r : Role} {l : Addr} {k : Nat} {μ' : Role → Addr} {st' : St} {Q : Unit → Shared → Prop} (F : Fr h₀ L s.heap m) (X₀ : K.In h₀) (N : News h₀ L s.heap ((l, W.listOf #[] k) :: ledW α ο δ μ σ st)) (hlt : ∀ p ∈ ledW α ο δ μ σ st, p.1 < l) (G : Good w α ω ο δ μ σ st)
    (hn : st'.n = st.n) (hadr : adr α ο δ μ' = upd (adr α ο δ μ) r l) (hrd : .marksD ≠ r) (hr : Shape w α ω ο δ μ' st' r (W.listOf #[] k))
    (hkv : ∀ τ, stored (marksKV α μ st τ) name (.ref l) = marksKV α μ' st' τ)
    (hne : ∀ x o, x ≠ r → x ≠ .marksD → Shape w α ω ο δ μ st x o → Shape w α ω ο δ μ' st' x o)
    (hs : findIn K (.ref 136) "__setattr__" = some (some (.builtin "object.__setattr__"))) (hp : plainOver K 136 = true) (ht : takerIn K 136 name = some none) (hh : hasDictIn K 136 = true)
    (h : ∀ h' σ', Fr h₀ L h' m → News h₀ L h' (ledW α ο δ μ' σ' st') → Good w α ω ο δ μ' σ' st' → Q () { s with heap := h', toks := s.toks + 2 }) :
    wpAny (model PP w) A (setAttr (.ref (α .marks)) name (.ref l)) Q E s := by
  obtain ⟨τ, hd⟩ := G.sh .marksD trivial
  have hlt' : ∀ x, Role.ok st.n x → adr α ο δ μ x < l := fun x hx => hlt _ (mem_led hx)
  have off : Off [(l, W.listOf #[] k)] (ledW α ο δ μ σ st) := fun p hp hq => by
    rw [List.mem_singleton.mp hp] at hq
    obtain ⟨q, hq, e⟩ := List.mem_map.mp hq
    have := hlt q hq
    rw [e] at this
    exact Nat.lt_irrefl _ this
  refine set_marksD (tmp := [(l, W.listOf #[] k)]) F X₀ N off G hd hs hp ht hh fun h' o' F' N' hd' => ?_
  rw [hkv τ] at hd'
  refine h h' (upd (upd σ .marksD o') r (W.listOf #[] k)) F' (News.sub N' ?_) (G.move hn hadr hlt' hrd hr ⟨τ, hd'⟩ hne)
  show ∀ p ∈ led (adr α ο δ μ') _ st'.n, _
  rw [hn, hadr]; exact led_move
theorem set_grey_nil {l : Addr} {k : Nat} {Q : Unit → Shared → Prop} (F : Fr h₀ L s.heap m) (X₀ : K.In h₀) (N : News h₀ L s.heap ((l, W.listOf #[] k) :: ledW α ο δ μ σ st)) (hlt : ∀ p ∈ ledW α ο δ μ σ st, p.1 < l) (G : Good w α ω ο δ μ σ st)
    (hs : findIn K (.ref 136) "__setattr__" = some (some (.builtin "object.__setattr__"))) (hp : plainOver K 136 = true) (ht : takerIn K 136 "grey" = some none) (hh : hasDictIn K 136 = true)
    (h : ∀ h' σ', Fr h₀ L h' m → News h₀ L h' (ledW α ο δ (upd μ .grey l) σ' (st.setGrey ([]))) → Good w α ω ο δ (upd μ .grey l) σ' (st.setGrey ([])) → Q () { s with heap := h', toks := s.toks + 2 }) :
    wpAny (model PP w) A (setAttr (.ref (α .marks)) "grey" (.ref l)) Q E s :=
  set_newlist (st' := (st.setGrey ([]))) (r := .grey) F X₀ N hlt G rfl (adr_grey l) (by decide) ⟨k, rfl⟩ (fun τ => rfl) (fun x o h1 h2 hS => by cases x <;> first | exact hS | exact absurd rfl h1 | exact absurd rfl h2) hs hp ht hh h
theorem set_again_nil {l : Addr} {k : Nat} {Q : Unit → Shared → Prop} (F : Fr h₀ L s.heap m) (X₀ : K.In h₀) (N : News h₀ L s.heap ((l, W.listOf #[] k) :: ledW α ο δ μ σ st)) (hlt : ∀ p ∈ ledW α ο δ μ σ st, p.1 < l) (G : Good w α ω ο δ μ σ st)
    (hs : findIn K (.ref 136) "__setattr__" = some (some (.builtin "object.__setattr__"))) (hp : plainOver K 136 = true) (ht : takerIn K 136 "grey_again" = some none) (hh : hasDictIn K 136 = true)
    (h : ∀ h' σ', Fr h₀ L h' m → News h₀ L h' (ledW α ο δ (upd μ .again l) σ' (st.setAgain ([]))) → Good w α ω ο δ (upd μ .again l) σ' (st.setAgain ([])) → Q () { s with heap := h', toks := s.toks + 2 }) :
    wpAny (model PP w) A (setAttr (.ref (α .marks)) "grey_again" (.ref l)) Q E s :=
  set_newlist (st' := (st.setAgain ([]))) (r := .again) F X₀ N hlt G rfl (adr_again l) (by decide) ⟨k, rfl⟩ (fun τ => rfl) (fun x o h1 h2 hS => by cases x <;> first | exact hS | exact absurd rfl h1 | exact absurd rfl h2) hs hp ht hh h
theorem set_weak_nil {l : Addr} {k : Nat} {Q : Unit → Shared → Prop} (F : Fr h₀ L s.heap m) (X₀ : K.In h₀) (N : News h₀ L s.heap ((l, W.listOf #[] k) :: ledW α ο δ μ σ st)) (hlt : ∀ p ∈ ledW α ο δ μ σ st, p.1 < l) (G : Good w α ω ο δ μ σ st)
    (hs : findIn K (.ref 136) "__setattr__" = some (some (.builtin "object.__setattr__"))) (hp : plainOver K 136 = true) (ht : takerIn K 136 "weak" = some none) (hh : hasDictIn K 136 = true)
    (h : ∀ h' σ', Fr h₀ L h' m → News h₀ L h' (ledW α ο δ (upd μ .weak l) σ' st) → Good w α ω ο δ (upd μ .weak l) σ' st → Q () { s with heap := h', toks := s.toks + 2 }) :
    wpAny (model PP w) A (setAttr (.ref (α .marks)) "weak" (.ref l)) Q E s :=
  set_newlist (st' := st) (r := .weak) F X₀ N hlt G rfl (adr_weak l) (by decide) ⟨k, rfl⟩ (fun τ => rfl) (fun x o h1 h2 hS => by cases x <;> first | exact hS | exact absurd rfl h1 | exact absurd rfl h2) hs hp ht hh h
theorem Good.swap {st' : St} {μ' : Role → Addr} {r2 : Role} {l : Addr} {o od : Obj} (G : Good w α ω ο δ μ σ st) (hn : st'.n = st.n) (hok : r2.ok st.n) (hadr : adr α ο δ μ' = upd (upd (adr α ο δ μ) .grey (adr α ο δ μ r2)) r2 l) (hlt : ∀ x, Role.ok st.n x → adr α ο δ μ x < l) (h2g : r2 ≠ .grey) (h2d : r2 ≠ .marksD)
    (hr : Shape w α ω ο δ μ' st' .grey (σ r2)) (hr2 : Shape w α ω ο δ μ' st' r2 o) (hd : Shape w α ω ο δ μ' st' .marksD od)
    (hne : ∀ x o, x ≠ .grey → x ≠ r2 → x ≠ .marksD → Shape w α ω ο δ μ st x o → Shape w α ω ο δ μ' st' x o) : Good w α ω ο δ μ' (upd (upd (upd σ .marksD od) .grey (σ r2)) r2 o) st' where
  inj := by
    rw [hn, hadr]
    have key : ∀ a, Role.ok st.n a → a ≠ r2 → (upd (upd (adr α ο δ μ) .grey (adr α ο δ μ r2)) r2 l) a = adr α ο δ μ (if a = .grey then r2 else a) := fun a ha h => by
      rw [upd_ne _ _ h]
      by_cases e : a = .grey
      · subst e; rw [upd_self, if_pos rfl]
      · rw [upd_ne _ _ e, if_neg e]
    have kok : ∀ a, Role.ok st.n a → Role.ok st.n (if a = .grey then r2 else a) := fun a ha => by split <;> assumption
    intro a b ha hb e
    by_cases ea : a = r2
    · by_cases eb : b = r2
      · rw [ea, eb]
      · rw [key b hb eb, ea, upd_self] at e
        exact absurd e (Nat.ne_of_gt (hlt _ (kok b hb)))
    · by_cases eb : b = r2
      · rw [key a ha ea, eb, upd_self] at e
        exact absurd e (Nat.ne_of_lt (hlt _ (kok a ha)))
      · rw [key a ha ea, key b hb eb] at e
        have := G.inj _ _ (kok a ha) (kok b hb) e
        by_cases ga : a = .grey <;> by_cases gb : b = .grey <;> simp [ga, gb] at this ⊢
        · exact absurd this.symm eb
        · exact absurd this ea
        · exact this
  lo := by
    rw [hn, hadr]
    intro a ha
    by_cases ea : a = r2
    · rw [ea, upd_self]; exact Nat.lt_trans (G.lo .cyc trivial) (hlt .cyc trivial)
    · rw [upd_ne _ _ ea]
      by_cases eg : a = .grey
      · rw [eg, upd_self]; exact G.lo r2 hok
      · rw [upd_ne _ _ eg]; exact G.lo a ha
  sh := fun x hx => by
    rw [hn] at hx
    by_cases e : x = r2
    · subst e; rw [upd_self]; exact hr2
    · rw [upd_ne _ _ e]
      by_cases eg : x = .grey
      · subst eg; rw [upd_self]; exact hr
      · rw [upd_ne _ _ eg]
        by_cases e2 : x = .marksD
        · subst e2; rw [upd_self]; exact hd
        · rw [upd_ne _ _ e2]; exact hne x _ eg e e2 (G.sh x hx)
theorem led_swap {β : Role → Addr} {σ : Role → Obj} {n : Nat} {r2 : Role} {l : Addr} {o od : Obj} (hok : r2.ok n) (h2d : r2 ≠ .marksD) :
    ∀ p ∈ led (upd (upd β .grey (β r2)) r2 l) (upd (upd (upd σ .marksD od) .grey (σ r2)) r2 o) n, p ∈ (l, o) :: led β (upd σ .marksD od) n := fun p hp => by
  obtain ⟨x, hx, rfl⟩ := of_led hp
  by_cases e : x = r2
  · subst e; rw [upd_self, upd_self]; exact .head _
  · rw [upd_ne _ _ e, upd_ne _ _ e]
    by_cases eg : x = .grey
    · subst eg; rw [upd_self, upd_self]
      have := mem_led (β := β) (σ := upd σ .marksD od) hok
      rw [upd_ne _ _ h2d] at this
      exact .tail _ this
    · rw [upd_ne _ _ eg, upd_ne _ _ eg]; exact .tail _ (mem_led hx)
theorem off_new {l : Addr} {lo : Obj} {L : List (Addr × Obj)} (hlt : ∀ p ∈ L, p.1 < l) : Off [(l, lo)] L := fun p hp hq => by
  rw [List.mem_singleton.mp hp] at hq
  obtain ⟨q, hq, e⟩ := List.mem_map.mp hq
  have := hlt q hq
  rw [e] at this
  exact Nat.lt_irrefl _ this
/-- «self.grey, self.x = self.x, []»: the first store -/
theorem set_swap1 {l a : Addr} {lo : Obj} {Q : Unit → Shared → Prop} (F : Fr h₀ L s.heap m) (X₀ : K.In h₀) (N : News h₀ L s.heap ((l, lo) :: ledW α ο δ μ σ st)) (hlt : ∀ p ∈ ledW α ο δ μ σ st, p.1 < l) (G : Good w α ω ο δ μ σ st)
    (hs : findIn K (.ref 136) "__setattr__" = some (some (.builtin "object.__setattr__"))) (hp : plainOver K 136 = true) (ht : takerIn K 136 "grey" = some none) (hh : hasDictIn K 136 = true)
    (h : ∀ h' o' τ, Fr h₀ L h' m → News h₀ L h' ((l, lo) :: led (adr α ο δ μ) (upd σ .marksD o') st.n) → o'.IsDictOf (sK w) (stored (marksKV α μ st τ) "grey" (.ref a)) → Q () { s with heap := h', toks := s.toks + 2 }) :
    wpAny (model PP w) A (setAttr (.ref (α .marks)) "grey" (.ref a)) Q E s := by
  obtain ⟨τ, hd⟩ := G.sh .marksD trivial
  exact set_marksD (tmp := [(l, lo)]) F X₀ N (off_new hlt) G hd hs hp ht hh fun h' o' F' N' hd' => h h' o' τ F' N' hd'
/-- the second -/
theorem set_swap2 {r2 : Role} {l : Addr} {k : Nat} {τ : Nat → Tok} {o1 : Obj} {μ' : Role → Addr} {st' : St} {Q : Unit → Shared → Prop} (G : Good w α ω ο δ μ σ st) (F : Fr h₀ L s.heap m) (X₀ : K.In h₀) (N : News h₀ L s.heap ((l, W.listOf #[] k) :: led (adr α ο δ μ) (upd σ .marksD o1) st.n)) (hlt : ∀ p ∈ ledW α ο δ μ σ st, p.1 < l)
    (hd : o1.IsDictOf (sK w) (stored (marksKV α μ st τ) "grey" (.ref (adr α ο δ μ r2))))
    (hn : st'.n = st.n) (hok : r2.ok st.n) (hadr : adr α ο δ μ' = upd (upd (adr α ο δ μ) .grey (adr α ο δ μ r2)) r2 l) (h2g : r2 ≠ .grey) (h2d : r2 ≠ .marksD)
    (hr : Shape w α ω ο δ μ' st' .grey (σ r2)) (hr2 : Shape w α ω ο δ μ' st' r2 (W.listOf #[] k))
    (hkv : stored (stored (marksKV α μ st τ) "grey" (.ref (adr α ο δ μ r2))) name (.ref l) = marksKV α μ' st' τ)
    (hlen : (stored (marksKV α μ st τ) "grey" (.ref (adr α ο δ μ r2))).length ≤ 999)
    (hne : ∀ x o, x ≠ .grey → x ≠ r2 → x ≠ .marksD → Shape w α ω ο δ μ st x o → Shape w α ω ο δ μ' st' x o)
    (hs : findIn K (.ref 136) "__setattr__" = some (some (.builtin "object.__setattr__"))) (hp : plainOver K 136 = true) (ht : takerIn K 136 name = some none) (hh : hasDictIn K 136 = true)
    (h : ∀ h' σ', Fr h₀ L h' m → News h₀ L h' (ledW α ο δ μ' σ' st') → Good w α ω ο δ μ' σ' st' → Q () { s with heap := h', toks := s.toks + 2 }) :
    wpAny (model PP w) A (setAttr (.ref (α .marks)) name (.ref l)) Q E s := by
  have hlt' : ∀ x, Role.ok st.n x → adr α ο δ μ x < l := fun x hx => hlt _ (mem_led hx)
  have h1 : (α .marks, instObj 136 (α .marksD)) ∈ (l, W.listOf #[] k) :: led (adr α ο δ μ) (upd σ .marksD o1) st.n := by
    have := mem_led (β := adr α ο δ μ) (σ := upd σ .marksD o1) (n := st.n) (r := .marks) trivial
    rw [upd_ne _ _ (by decide), show σ .marks = _ from G.sh .marks trivial] at this
    exact .tail _ this
  have U := led_updF (β := adr α ο δ μ) (σ := upd σ .marksD o1) (n := st.n) (r := .marksD) G.inj trivial
  rw [upd_self] at U
  have e2 : ∀ o', upd (upd σ .marksD o1) .marksD o' = upd σ .marksD o' := fun o' => by
    funext x; by_cases e : x = .marksD <;> simp [upd, e]
  refine setA F X₀ N h1 (UpdF.tail (p := (l, W.listOf #[] k)) (Nat.ne_of_gt (hlt' .marksD trivial)) U) hd hs hp ht hh hlen fun h' o' F' N' hd' => ?_
  rw [hkv] at hd'
  rw [e2] at N'
  refine h h' (upd (upd (upd σ .marksD o') .grey (σ r2)) r2 (W.listOf #[] k)) F' (News.sub N' ?_) (G.swap hn hok hadr hlt' h2g h2d hr hr2 ⟨τ, hd'⟩ hne)
  show ∀ p ∈ led (adr α ο δ μ') _ st'.n, _
  rw [hn, hadr]
  exact led_swap hok h2d
theorem Good.rootsMem (G : Good w α ω ο δ μ σ st) {o : Obj} (h : ω .roots = o) : (α .roots, o) ∈ ledW α ο δ μ σ st := by
  have hm := mem_led (β := adr α ο δ μ) (σ := σ) (n := st.n) (r := .roots) trivial
  rw [G.isRoots, h] at hm
  exact hm
end
end

section
open PySem PySem.W PyProof.Rows
section
variable {k : Nat} {fr : List Nat} {st : St}
theorem InvF.dead_iff (h : InvF k fr st) {i : Nat} (hi : i ∈ st.live) : st.dead i ↔ st.mark i = 1 - st.white := by
  have hl := h.lm i hi
  have hw := h.wh
  rw [dead_def]
  (first | lia | omega)
/-- what a step of the sweep leaves -/
structure Sws (st b : St) : Prop where
  same : SameS st { b with phase := st.phase, est := st.est }
  phase : b.phase = 3
  est : b.est = max 0 (st.est - (st.total - b.total))
  sweep : b.sweep = []
  live : ∀ j, j ∈ b.live ↔ j ∈ st.live ∧ st.mark j ≠ 1 - st.white
  mark : ∀ j ∈ st.live, b.mark j = if st.mark j = 1 - st.white then 4 else st.white
  off : ∀ j, j ∉ st.live → b.mark j = st.mark j
  nd : b.live.Nodup
  total : b.total = (b.live.map st.size).sum
theorem InvF.sws (h : InvF k fr st) (hp : st.phase = 2) : Sws st (sweepStep st) := by
  have q := h.p2 hp
  have hsl := h.sl
  have r := sweepF_sw 16 st (by (first | lia | omega)) h.lnd h.wh h.tot
  unfold sweepStep
  generalize sweepF 16 st = b at r ⊢
  dsimp only
  rw [if_pos r.sweep]
  have hsw : ∀ j ∈ st.live, st.dead j → j ∈ st.sweep := fun j hj hd => by
    rcases q.l j hj with e | e
    · have h1 := (h.dead_iff hj).mp hd
      have hw := h.wh
      (first | lia | omega)
    · exact e
  refine ⟨?_, rfl, by show max 0 (b.est - (st.total - b.total)) = _; rw [r.same.est], r.sweep, fun j => ?_, fun j hj => ?_, fun j hj => ?_, r.nd, r.total⟩
  · have h1 := r.same
    unfold SameS at h1 ⊢
    conv => lhs; rw [h1]
  · show j ∈ b.live ↔ _
    rw [r.live]
    refine and_congr_right fun hj => ?_
    have hd := h.dead_iff hj
    exact ⟨fun h1 h2 => h1 ⟨hsw j hj (hd.mpr h2), hd.mpr h2⟩, fun h1 h2 => h1 (hd.mp h2.2)⟩
  · show b.mark j = _
    rw [r.mark]
    by_cases hd : st.dead j
    · rw [if_pos ⟨hsw j hj hd, hj⟩, if_pos hd, if_pos ((h.dead_iff hj).mp hd)]
    · rw [if_neg (fun e => hd ((h.dead_iff hj).mpr e))]
      by_cases h3 : j ∈ st.sweep
      · rw [if_pos ⟨h3, hj⟩, if_neg hd]
      · rw [if_neg fun e => h3 e.1]
        rcases q.l j hj with e | e
        · exact e
        · exact absurd e h3
  · show b.mark j = _
    rw [r.mark, if_neg fun e => hj e.2]
theorem InvF.sweeps (h : InvF k fr st) (hp : st.phase = 2) : InvF k (fr ++ st.live.filter fun j => decide ((sweepStep st).mark j = 4)) (sweepStep st) := by
  have q := h.p2 hp
  have r := h.sws hp
  generalize sweepStep st = b at r ⊢
  have hs := r.same
  have hw := h.wh
  have en : b.n = st.n := hs.n
  have ee : b.edges = st.edges := hs.edges
  have es : b.size = st.size := hs.size
  have ew : b.white = st.white := hs.white
  have eg : b.grey = st.grey := hs.grey
  have ea : b.again = st.again := hs.again
  have er : b.roots = st.roots := hs.roots
  have eso : b.sort = st.sort := hs.sort
  have hg0 : st.grey = [] := h.g0 (by (first | lia | omega))
  have hm : ∀ j ∈ b.live, b.mark j = st.white := fun j hj => by
    obtain ⟨h1, h2⟩ := (r.live j).mp hj
    rw [r.mark j h1, if_neg h2]
  have hd4 : ∀ j ∈ st.live, (b.mark j = 4 ↔ st.mark j = 1 - st.white) := fun j hj => by
    rw [r.mark j hj]; split
    · simp_all
    · constructor
      · intro e; (first | lia | omega)
      · intro e; contradiction
  have hperm : (b.live ++ st.live.filter fun j => decide (b.mark j = 4)).Perm st.live := by
    have h1 : b.live.Perm (st.live.filter fun j => !decide (b.mark j = 4)) := by
      refine (List.perm_ext_iff_of_nodup r.nd (h.lnd.sublist List.filter_sublist)).mpr fun j => ?_
      rw [r.live, List.mem_filter]
      refine and_congr_right fun hj => ?_
      simp [hd4 j hj]
    exact (h1.append_right _).trans ((List.perm_append_comm).trans (List.filter_append_perm _ _))
  refine ⟨⟨?_, ?_, ?_, ?_, ?_⟩, ?_, h.k12, ?_, ?_, ?_, ?_, ?_, ?_, ?_, ?_, .inr (.inr (.inr r.phase)), ?_, ?_, ?_, ?_, ?_, ?_, ?_, ?_, ?_, ?_, ?_⟩
  · rw [en]; exact h.wf.small
  · intro i hi; rw [eso]; exact h.wf.sort i (by unfold St.ok at *; (first | lia | omega))
  · intro i hi; rw [es]; exact h.wf.size i (by unfold St.ok at *; (first | lia | omega))
  · intro i hi; rw [ee]; intro c hc
    have := h.wf.edge i (by unfold St.ok at *; (first | lia | omega)) c hc
    unfold St.ok at *; (first | lia | omega)
  · intro i hi; rw [ee]; exact h.wf.elen i (by unfold St.ok at *; (first | lia | omega))
  · rw [en]; exact h.n1
  · rw [en]; exact h.nk
  · intro i hi; rw [ee]; exact h.ek i (by unfold St.ok at *; (first | lia | omega))
  · rw [ea]; exact h.ak
  · rw [er]; exact h.roots
  · rw [r.live]; exact ⟨h.one, q.r⟩
  · rw [en]
    have := h.perm
    refine List.Perm.trans ?_ this
    refine List.Perm.trans ?_ (hperm.append_right fr)
    rw [List.append_assoc]
    exact List.Perm.append_left _ List.perm_append_comm
  · rw [r.total, es]
  · rw [ew]; exact hw
  · intro i hi c hc
    rw [ee] at hc
    obtain ⟨h1, h2⟩ := (r.live i).mp hi
    exact (r.live c).mpr ⟨h.clo i h1 c hc, q.c i h1 h2 c hc⟩
  · intro i hi; rw [hm i hi]; (first | lia | omega)
  · intro i hi
    rcases List.mem_append.mp hi with h1 | h1
    · rw [r.off i fun h2 => h.apart h2 h1]; exact h.fm i h1
    · simpa using (List.mem_filter.mp h1).2
  · rw [eg, hg0]; exact fun _ h => nomatch h
  · rw [eg]; exact h.gn
  · intro i hi
    rw [ea] at hi
    refine .inr ⟨by rw [r.phase]; (first | lia | omega), ?_⟩
    rcases h.al i hi with h1 | h1
    · have := h.lok h1; unfold St.ok at *; (first | lia | omega)
    · have := h1.2; unfold St.ok at *; (first | lia | omega)
  · rw [r.sweep]; simp
  · intro _; rw [eg]; exact hg0
  · intro _ i hi; rw [ew]; exact hm i hi
  · intro e; rw [r.phase] at e; (first | lia | omega)
  · intro e; rw [r.phase] at e; (first | lia | omega)
theorem InvF.finals (h : InvF k fr st) (hp : st.phase = 3) : InvF k fr (finalize st) := by
  have hm : ∀ i ∈ st.live, st.mark i = st.white := h.p03 (.inr hp)
  refine ⟨⟨h.wf.small, h.wf.sort, h.wf.size, h.wf.edge, h.wf.elen⟩, h.n1, h.k12, h.nk, h.ek, h.ak, h.roots, h.one, h.perm, h.tot, h.wh, .inl rfl, h.clo, h.lm, h.fm, h.gl, h.gn, ?_, h.sl, ?_, fun _ => hm, ?_, ?_⟩
  · intro i hi
    refine .inr ⟨by show (0 : Int) ≠ 1; (first | lia | omega), ?_⟩
    rcases h.al i hi with h1 | h1
    · exact h.lok h1
    · exact h1.2
  · intro _; exact h.g0 (by (first | lia | omega))
  · intro e; exact absurd e (by show ¬ (0 : Int) = 1; (first | lia | omega))
  · intro e; exact absurd e (by show ¬ (0 : Int) = 2; (first | lia | omega))
theorem single_0 (hp : st.phase = 0) : single st = (begin st).setPhase 1 := by unfold single; rw [if_pos hp]; rfl
theorem single_1 (hp : st.phase = 1) {l : List Nat} {i : Nat} (hg : st.grey = l ++ [i]) : single st = propAt st l i := by
  unfold single
  rw [if_neg (by (first | lia | omega)), if_pos hp]
  have e1 : st.grey.getLast? = some i := by rw [hg]; simp
  have e2 : st.grey.dropLast = l := by rw [hg]; simp
  rw [e1, e2]
theorem single_1e (hp : st.phase = 1) (hg : st.grey = []) : single st = atomic st := by
  unfold single
  rw [if_neg (by (first | lia | omega)), if_pos hp, hg]; rfl
theorem single_2 (hp : st.phase = 2) : single st = sweepStep st := by
  unfold single; rw [if_neg (by (first | lia | omega)), if_neg (by (first | lia | omega)), if_pos hp]
theorem single_3 (hp : st.phase = 3) : single st = finalize st := by
  unfold single; rw [if_neg (by (first | lia | omega)), if_neg (by (first | lia | omega)), if_neg (by (first | lia | omega))]
/-- what a step freed -/
noncomputable def goneAt (st : St) : List Nat := st.live.filter fun j => decide ((single st).mark j = 4)
theorem gone_nil {b : St} (hl : b.live = st.live) (lm : ∀ i ∈ b.live, 0 ≤ b.mark i ∧ b.mark i ≤ 3) : (st.live.filter fun j => decide (b.mark j = 4)) = [] := by
  refine List.filter_eq_nil_iff.mpr fun j hj => ?_
  have := lm j (by rw [hl]; exact hj)
  simp; (first | lia | omega)
theorem atomic_same (h : InvF k fr st) (hp : st.phase = 1) : (atomic st).live = st.live ∧ (atomic st).sort = st.sort ∧ (atomic st).edges = st.edges ∧ (atomic st).n = st.n ∧ (atomic st).size = st.size ∧ (atomic st).turn = st.turn ∧ (atomic st).cells = st.cells ∧ (atomic st).freed = st.freed ∧ (atomic st).phase = 2 ∧ (atomic st).cycles = st.cycles ∧ (atomic st).total = st.total ∧ (atomic st).est = max 0 st.total := by
  have hs := (h.fi hp).sd.same
  unfold atomic flip
  generalize finish st = f at hs ⊢
  exact ⟨hs.live, hs.sort, hs.edges, hs.n, hs.size, hs.turn, hs.cells, hs.freed, rfl, hs.cycles, hs.total, by show max 0 f.total = _; rw [hs.total]⟩
theorem begin_live (st : St) : ((begin st).setPhase 1).live = st.live := (foldF_same 20 st.roots (forget st)).a.live
theorem InvF.steps (h : InvF k fr st) : InvF k (fr ++ goneAt st) (single st) := by
  unfold goneAt
  have done : ∀ b : St, b.live = st.live → InvF k fr b → InvF k (fr ++ st.live.filter fun j => decide (b.mark j = 4)) b := fun b hl hb => by
    rw [gone_nil hl hb.lm, List.append_nil]; exact hb
  rcases h.ph with hp | hp | hp | hp
  · rw [single_0 hp]
    exact done ((begin st).setPhase 1) (begin_live st) (h.begins (.inl hp)).2
  · cases hgl : st.grey.getLast? with
    | none =>
      have hg := List.getLast?_eq_none_iff.mp hgl
      rw [single_1e hp hg]
      exact done (atomic st) (atomic_same h hp).1 (h.atoms hp)
    | some i =>
      have hg := last_split hgl
      rw [single_1 hp hg]
      exact done _ (propAt_pr h.wg hg).same.live (h.props hp hg)
  · rw [single_2 hp]; exact h.sweeps hp
  · rw [single_3 hp]; exact done _ rfl (h.finals hp)
/-- what is asked of a step's marks -/
structure TR (st : St) (m0 : Nat → Int) (ls : List Nat) (ph : Int) (pp : Nat) : Prop where
  ok : ∀ j ∈ ls, st.ok j
  sw : ph = 2 → ∀ j ∈ ls, st.mark j = m0 j ∨ st.mark j = (if m0 j = 1 - st.white then 4 else st.white)
  on : ph ≠ 2 → ∀ j ∈ ls, st.mark j = m0 j ∨ (m0 j < 2 ∧ 2 ≤ st.mark j ∧ st.mark j < 4) ∨ (m0 j = 2 ∧ st.mark j = 3 ∧ j = pp)
  pop : 0 < pp → st.ok pp ∧ st.mark pp = (if st.sort pp = 3 then 2 else 3)
  gone : ph ≠ 2 → ∀ j ∈ ls, st.mark j ≠ 4
theorem InvF.tr0 (h : InvF k fr st) (hp : st.phase = 0) : TR (single st) st.mark st.live 0 0 := by
  rw [single_0 hp]
  obtain ⟨m, hI⟩ := h.begins (.inl hp)
  have hs : SameA st (begin st) := (forget_same st).trans m.same.a
  have hm : ∀ i ∈ st.live, st.mark i = st.white := h.p03 (.inl hp)
  have hw := h.wh
  have hnew : ∀ i ∈ st.live, (begin st).mark i = st.mark i ∨ (begin st).mark i = 2 ∨ (begin st).mark i = 3 := fun i hi => m.new i (by show st.mark i < 2; rw [hm i hi]; (first | lia | omega))
  refine ⟨fun j hj => (hs.ok j).mpr (h.lok hj), fun e => by (first | lia | omega), fun _ j hj => ?_, fun e => by (first | lia | omega), fun _ j hj => ?_⟩
  · show (begin st).mark j = _ ∨ (_ ∧ 2 ≤ (begin st).mark j ∧ (begin st).mark j < 4) ∨ _
    have := hm j hj
    rcases hnew j hj with e | e | e
    · exact .inl e
    · exact .inr (.inl ⟨by (first | lia | omega), by (first | lia | omega), by (first | lia | omega)⟩)
    · exact .inr (.inl ⟨by (first | lia | omega), by (first | lia | omega), by (first | lia | omega)⟩)
  · show (begin st).mark j ≠ 4
    have := hm j hj
    rcases hnew j hj with e | e | e <;> (first | lia | omega)
theorem InvF.tr1 (h : InvF k fr st) (hp : st.phase = 1) {l : List Nat} {i : Nat} (hg : st.grey = l ++ [i]) : TR (single st) st.mark st.live 1 i := by
  rw [single_1 hp hg]
  have p := propAt_pr h.wg hg
  generalize propAt st l i = b at p ⊢
  have hil := h.gl i (by rw [hg]; simp)
  have hok : ∀ j ∈ st.live, b.ok j := fun j hj => (p.same.ok j).mpr (h.lok hj)
  refine ⟨hok, fun e => by (first | lia | omega), fun _ j hj => ?_, fun e => ⟨hok i hil.1, by rw [p.same.sort]; exact p.self⟩, fun _ j hj => ?_⟩
  · by_cases hne : j = i
    · subst hne
      rw [p.self, hil.2]
      split
      · exact .inl rfl
      · exact .inr (.inr ⟨rfl, rfl, rfl⟩)
    · by_cases h2 : st.mark j < 2
      · rcases p.new j hne h2 with e | e | e
        · exact .inl e
        · exact .inr (.inl ⟨h2, by (first | lia | omega), by (first | lia | omega)⟩)
        · exact .inr (.inl ⟨h2, by (first | lia | omega), by (first | lia | omega)⟩)
      · exact .inl (p.old j hne (by (first | lia | omega)))
  · have hl := h.lm j hj
    by_cases hne : j = i
    · subst hne; rw [p.self]; split <;> (first | lia | omega)
    · by_cases h2 : st.mark j < 2
      · rcases p.new j hne h2 with e | e | e <;> (first | lia | omega)
      · rw [p.old j hne (by (first | lia | omega))]; (first | lia | omega)
theorem InvF.tr2 (h : InvF k fr st) (hp : st.phase = 2) : TR (single st) st.mark st.live 2 0 := by
  rw [single_2 hp]
  have r := h.sws hp
  generalize sweepStep st = b at r ⊢
  have ew : b.white = st.white := r.same.white
  have en : b.n = st.n := r.same.n
  refine ⟨fun j hj => ?_, fun _ j hj => .inr ?_, fun e => absurd rfl e, fun e => by (first | lia | omega), fun e => absurd rfl e⟩
  · have := h.lok hj; unfold St.ok at *; (first | lia | omega)
  · rw [ew]; exact r.mark j hj
theorem InvF.tr3 (h : InvF k fr st) (hp : st.phase = 3) : TR (single st) st.mark st.live 3 0 := by
  rw [single_3 hp]
  refine ⟨fun j hj => h.lok hj, fun e => by (first | lia | omega), fun _ j hj => .inl rfl, fun e => by (first | lia | omega), fun _ j hj => ?_⟩
  show st.mark j ≠ 4
  have := h.lm j hj; (first | lia | omega)
theorem single_sort (h : InvF k fr st) : (single st).sort = st.sort ∧ (single st).edges = st.edges ∧ (single st).n = st.n ∧ (single st).size = st.size ∧ (single st).turn = st.turn ∧ (single st).cells = st.cells ∧ (single st).freed = st.freed := by
  rcases h.ph with hp | hp | hp | hp
  · rw [single_0 hp]
    have hs : SameA st (begin st) := (forget_same st).trans (foldF_same 20 st.roots (forget st)).a
    exact ⟨hs.sort, hs.edges, hs.n, hs.size, hs.turn, hs.cells, hs.freed⟩
  · cases hgl : st.grey.getLast? with
    | none =>
      have hg := List.getLast?_eq_none_iff.mp hgl
      rw [single_1e hp hg]
      obtain ⟨_, h1, h2, h3, h4, h5, h6, h7, _⟩ := atomic_same h hp
      exact ⟨h1, h2, h3, h4, h5, h6, h7⟩
    | some i =>
      have hg := last_split hgl
      rw [single_1 hp hg]
      have hs := (propAt_pr h.wg hg).same
      exact ⟨hs.sort, hs.edges, hs.n, hs.size, hs.turn, hs.cells, hs.freed⟩
  · rw [single_2 hp]
    have hs := (h.sws hp).same
    exact ⟨hs.sort, hs.edges, hs.n, hs.size, hs.turn, hs.cells, hs.freed⟩
  · rw [single_3 hp]; exact ⟨rfl, rfl, rfl, rfl, rfl, rfl, rfl⟩
end
end

section
open PySem PySem.W PySem.Calls PyProof.Rows
theorem said_1 : True := by
  k_with "m_conj" => (with_reducible (first | assumption | exact And.left (by assumption) | exact And.left (And.right (by assumption)) | exact And.left (And.right (And.right (by assumption))) | exact And.left (And.right (And.right (And.right (by assumption)))) | exact And.left (And.right (And.right (And.right (And.right (by assumption))))) | exact And.left (And.right (And.right (And.right (And.right (And.right (by assumption)))))) | exact And.left (And.right (And.right (And.right (And.right (And.right (And.right (by assumption))))))) | exact And.left (And.right (And.right (And.right (And.right (And.right (And.right (And.right (by assumption)))))))) | exact And.left (And.right (And.right (And.right (And.right (And.right (And.right (And.right (And.right (by assumption))))))))) | exact And.left (And.right (And.right (And.right (And.right (And.right (And.right (And.right (And.right (And.right (by assumption)))))))))) | exact And.left (And.right (And.right (And.right (And.right (And.right (And.right (And.right (And.right (And.right (And.right (by assumption))))))))))) | exact And.left (And.right (And.right (And.right (And.right (And.right (And.right (And.right (And.right (And.right (And.right (And.right (by assumption)))))))))))) | exact And.left (And.right (And.right (And.right (And.right (And.right (And.right (And.right (And.right (And.right (And.right (And.right (And.right (by assumption))))))))))))) | exact And.left (And.right (And.right (And.right (And.right (And.right (And.right (And.right (And.right (And.right (And.right (And.right (And.right (And.right (by assumption)))))))))))))) | exact And.left (And.right (And.right (And.right (And.right (And.right (And.right (And.right (And.right (And.right (And.right (And.right (And.right (And.right (And.right (by assumption))))))))))))))) | exact And.left (And.right (And.right (And.right (And.right (And.right (And.right (And.right (And.right (And.right (And.right (And.right (And.right (And.right (And.right (And.right (by assumption)))))))))))))))) | exact And.right (by assumption) | exact And.right (And.right (by assumption)) | exact And.right (And.right (And.right (by assumption))) | exact And.right (And.right (And.right (And.right (by assumption)))) | exact And.right (And.right (And.right (And.right (And.right (by assumption))))) | exact And.right (And.right (And.right (And.right (And.right (And.right (by assumption)))))) | exact And.right (And.right (And.right (And.right (And.right (And.right (And.right (by assumption))))))) | exact And.right (And.right (And.right (And.right (And.right (And.right (And.right (And.right (by assumption)))))))) | exact And.right (And.right (And.right (And.right (And.right (And.right (And.right (And.right (And.right (by assumption))))))))) | exact And.right (And.right (And.right (And.right (And.right (And.right (And.right (And.right (And.right (And.right (by assumption)))))))))) | exact And.right (And.right (And.right (And.right (And.right (And.right (And.right (And.right (And.right (And.right (And.right (by assumption))))))))))) | exact And.right (And.right (And.right (And.right (And.right (And.right (And.right (And.right (And.right (And.right (And.right (And.right (by assumption)))))))))))) | exact And.right (And.right (And.right (And.right (And.right (And.right (And.right (And.right (And.right (And.right (And.right (And.right (And.right (by assumption))))))))))))) | exact And.right (And.right (And.right (And.right (And.right (And.right (And.right (And.right (And.right (And.right (And.right (And.right (And.right (And.right (by assumption)))))))))))))) | exact And.right (And.right (And.right (And.right (And.right (And.right (And.right (And.right (And.right (And.right (And.right (And.right (And.right (And.right (And.right (by assumption))))))))))))))) | exact And.right (And.right (And.right (And.right (And.right (And.right (And.right (And.right (And.right (And.right (And.right (And.right (And.right (And.right (And.right (And.right (by assumption))))))))))))))))))
  k_with "m_kne" => (((try dsimp only); first | (with_reducible assumption) | (as_aux_lemma => (first | (refine Nat.ne_of_gt ?_; (k_extra "m_conj")) | (refine Nat.ne_of_lt ?_; (k_extra "m_conj")) | (refine Nat.ne_of_gt (Nat.lt_trans ?_ (by with_reducible assumption)); (k_extra "m_conj")) | (refine Nat.ne_of_lt (Nat.lt_trans ?_ (by with_reducible assumption)); (k_extra "m_conj")) | lia | (refine neN ?_; omega)))))
  trivial
end
local macro_rules | `(tactic| k_ne) => `(tactic| (k_extra "m_kne"))
section
open PySem PySem.W PySem.Calls PyProof.Rows
theorem said_2 : True := by
  k_with "m_klt" => ((intro zh; replace zh := allLt_of zh; simp only [AllLt, and_true] at zh; (try replace zh := zh); revert zh))
  trivial
end
local macro_rules | `(tactic| k_lt $h) => `(tactic| (revert $h; (k_extra "m_klt"); intro $h:ident))
section
open PySem PySem.W PySem.Calls PyProof.Rows
theorem said_3 : True := by
  k_with "m_sub" => ((repeat' (first | exact sub_refl | refine sub_cons ?_)))
  k_with "m_ok" => (first | assumption | exact trivial | exact ⟨by omega, by omega⟩ | (dsimp only; omega))
  k_with "m_val" => ((intro _; exact rfl))
  k_with "m_off" => (first | assumption | exact off_nil)
  k_with "m_news" => (first | k_asm | exact News.sub (by k_asm) (by (k_extra "m_sub")))
  k_with "m_lo" => (first | exact Good.loGrey (by assumption) | exact Good.loAgain (by assumption) | exact Good.loWeak (by assumption) | exact Good.loRoots (by assumption))
  k_with "m_small" => ((first | (with_reducible assumption) | exact Nat.zero_le _ | omega | (dsimp only [St.setMark, St.setGrey, St.setAgain]; omega)))
  trivial
theorem room0 {a dp D b : Nat} (hD : dp + b ≤ recursionLimit) (e : a = dp) (h : Nat.ble (D + 1) b = true) : a + D < recursionLimit := by
  have := Nat.le_of_ble_eq_true h; omega
theorem room1 {a dp k D b : Nat} (hD : dp + b ≤ recursionLimit) (e : a = dp + k) (h : Nat.ble (k + D + 1) b = true) : a + D < recursionLimit := by
  have := Nat.le_of_ble_eq_true h; omega
theorem unit0 {a un D b : Nat} (hU : un + b < cLine + 3) (e : a = un) (h : Nat.ble (D + 3) b = true) : a + D < cLine := by
  have := Nat.le_of_ble_eq_true h; omega
theorem unit1 {a un k D b : Nat} (hU : un + b < cLine + 3) (e : a = un + k) (h : Nat.ble (k + D + 3) b = true) : a + D < cLine := by
  have := Nat.le_of_ble_eq_true h; omega
section
variable {w : World} {α : Role → Addr} {ω : Role → Obj} {ο δ : Nat → Addr} {μ : Role → Addr} {σ : Role → Obj} {st : St} {A : Around} {E : Value → Shared → Prop} {s : Shared} {L : Addr} {h₀ : Heap} {news : List (Addr × Obj)} {name : Str}
theorem said_4 : True := by
  k_with "m_room" => (first | (refine' room0 ?zqhD ?zqe ?zqh; (case zqhD => assumption); (case zqe => exact rfl); (case zqh => exact rfl)) | (refine' room1 ?zqhD ?zqe ?zqh; (case zqhD => assumption); (case zqe => exact rfl); (case zqh => exact rfl)) | ((try simp only [depth_under_make, depth_under_kw, depth_in1, depth_deeper, depth_caller]); (try dsimp only [ktrTop]); omega))
  k_with "m_units" => (first | (refine' unit0 ?zqhD ?zqe ?zqh; (case zqhD => assumption); (case zqe => exact rfl); (case zqh => exact rfl)) | (refine' unit1 ?zqhD ?zqe ?zqh; (case zqhD => assumption); (case zqe => exact rfl); (case zqh => exact rfl)) | ((try simp only [units_in1, units_deeper, Around.mark_units, units_caller]); (try dsimp only [ktrTop]); omega))
  k_with "m_oki" => (first | assumption | (k_extra "m_ok"))
  k_with "m_mem" => (((repeat (first | assumption | exact List.Mem.head _ | refine List.Mem.tail _ ?_)); done))
  k_with "m_s" => (((first | (case zqG => assumption) | (fail_if_success (case' zqG => skip))); (first | (case zqe1 => assumption) | (fail_if_success (case' zqe1 => skip))); (first | (case zqe2 => assumption) | (fail_if_success (case' zqe2 => skip))); (first | (case zqoff => (k_extra "m_off")) | (fail_if_success (case' zqoff => skip))); (first | (case zqB => k_asm) | (fail_if_success (case' zqB => skip))); (first | (case zqF => k_asm) | (fail_if_success (case' zqF => skip))); (first | (case zqX => k_asm) | (fail_if_success (case' zqX => skip))); (first | (case zqN => (k_extra "m_news")) | (fail_if_success (case' zqN => skip))); (first | (case zqT => k_asm) | (fail_if_success (case' zqT => skip))); (first | (case zqs => (k_extra "m_sub")) | (fail_if_success (case' zqs => skip))); (first | (case zqk1 => k_mem) | (fail_if_success (case' zqk1 => skip))); (first | (case zqk2 => k_mem) | (fail_if_success (case' zqk2 => skip))); (first | (case zqw1 => (k_extra "m_mem")) | (fail_if_success (case' zqw1 => skip))); (first | (case zqw2 => (k_extra "m_mem")) | (fail_if_success (case' zqw2 => skip))); (first | (case zqok => (k_extra "m_oki")) | (fail_if_success (case' zqok => skip))); (first | (case zqlg => (k_extra "m_lo")) | (fail_if_success (case' zqlg => skip))); (first | (case zql1 => k_asm) | (fail_if_success (case' zql1 => skip))); (first | (case zqa1 => assumption) | (fail_if_success (case' zqa1 => skip))); (first | (case zqa2 => assumption) | (fail_if_success (case' zqa2 => skip))); (first | (case zqa3 => assumption) | (fail_if_success (case' zqa3 => skip))); (first | (case zqv1 => (k_extra "m_val")) | (fail_if_success (case' zqv1 => skip))); (first | (case zqv2 => (k_extra "m_val")) | (fail_if_success (case' zqv2 => skip))); (first | (case zqr1 => exact rfl) | (fail_if_success (case' zqr1 => skip))); (first | (case zqr2 => exact rfl) | (fail_if_success (case' zqr2 => skip))); (first | (case zqr3 => exact rfl) | (fail_if_success (case' zqr3 => skip))); (first | (case zqr4 => exact rfl) | (fail_if_success (case' zqr4 => skip))); (first | (case zqi1 => k_is) | (fail_if_success (case' zqi1 => skip))); (first | (case zqi2 => k_is) | (fail_if_success (case' zqi2 => skip))); (first | (case zqi3 => k_is) | (fail_if_success (case' zqi3 => skip))); (first | (case zqi4 => k_is) | (fail_if_success (case' zqi4 => skip))); (first | (case zqi5 => k_is) | (fail_if_success (case' zqi5 => skip))); (first | (case zqi6 => k_is) | (fail_if_success (case' zqi6 => skip))); (first | (case zqz1 => (k_extra "m_small")) | (fail_if_success (case' zqz1 => skip))); (first | (case zqb1 => exact Nat.le_of_ble_eq_true rfl) | (fail_if_success (case' zqb1 => skip))); (first | (case zqu1 => k_updF) | (fail_if_success (case' zqu1 => skip))); (first | (case zqU1 => (k_extra "m_updF")) | (fail_if_success (case' zqU1 => skip))); (first | (case zqro => (k_extra "m_room")) | (fail_if_success (case' zqro => skip))); (first | (case zqun => (k_extra "m_units")) | (fail_if_success (case' zqun => skip)))))
  k_with "m_ti" => ((k_whole; intros))
  k_with "m_tk" => ((k_whole; intros; (try k_sweep)))
  k_with "m_tn" => ((k_whole; intros; (with_reducible rename News _ _ _ _ => N'); (try dsimp only [List.nil_append] at N'); (try k_sweep)))
  k_with "m_tc" => ((k_whole; intros; (with_reducible rename News _ _ _ _ => N'); (try dsimp only [List.cons_append, List.nil_append] at N'); (try k_sweep)))
  k_with "m_si" => ((k_dflt ((k_extra "m_s"); (k_extra "m_ti"))))
  k_with "m_sk" => ((k_dflt ((k_extra "m_s"); (k_extra "m_tk"))))
  k_with "m_sn" => ((k_dflt ((k_extra "m_s"); (k_extra "m_tn"))))
  k_with "m_sc" => ((k_dflt ((k_extra "m_s"); (k_extra "m_tc"))))
  k_with "m_sw" => ((k_dflt ((k_extra "m_s"); k_whole)))
  k_with "eval Name" => ((k_here; (with_reducible rename Fr _ _ _ _ => kF); (with_reducible refine' nameX_L kF ?zqv ?_ ?zqa ?zqb ?zqc); k_dflt ((case zqv => (first | exact rfl | ((simp only [strEq, String.reduceEq, ↓reduceIte]); (try exact rfl)))); (case zqa => exact rfl); (case zqb => kernel_rfl); (case zqc => kernel_rfl); k_whole)))
  k_with "getAttr ref" => ((k_here; k_dflt ((((with_reducible refine' get_cyc ?zqF ?zqX ?zqN ?zqs ?zqG ?zqi1 ?zqi2 ?zqi3 ?zqi4 ?zqv1 ?zqv2 ?_); (k_extra "m_si"))))))
  k_with "getAttr ref" => ((k_here; k_dflt ((((with_reducible refine' get_marks ?zqF ?zqX ?zqN ?zqs ?zqG ?zqi1 ?zqi2 ?zqi3 ?zqi4 ?zqv1 ?zqv2 ?_); (k_extra "m_si"))))))
  k_with "getAttr ref" => ((k_here; (with_reducible refine' get_obj ?zqF ?zqX ?zqN ?zqs ?zqG ?zqok ?zqi1 ?zqi2 ?zqi3 ?zqi4 ?zqv1 ?zqv2 ?_); k_dflt ((case zqG => assumption); (k_extra "m_si"))))
  k_with "getMethod ref" => ((k_here; k_dflt ((((with_reducible refine' meth_cyc ?zqF ?zqX ?zqN ?zqs ?zqG ?zqi1 ?zqi2 ?zqi3 ?zqv1 ?_); (k_extra "m_sw"))))))
  k_with "getMethod ref" => ((k_here; k_dflt (first | ((((with_reducible refine' meth_marks ?zqF ?zqX ?zqN ?zqs ?zqG ?zqi1 ?zqi2 ?zqi3 ?zqv1 ?_); (k_extra "m_sw")))) | ((with_reducible refine' meth_own_marks ?zqF ?zqX ?zqN ?zqs ?zqG ?zqi1 ?zqi2 ?_); (k_extra "m_sw")))))
  trivial
theorem meth_lo {r : Role} {vs : List Value} {id : String} {pl : Sem Bool} {Q : Value × List Value → Shared → Prop} (G : Good w α ω ο δ μ σ st) (N : News h₀ L s.heap news) (hs : ∀ p ∈ ledW α ο δ μ σ st, p ∈ news) (hr : r.ok st.n) (hL : IsLO (σ r) vs)
    (slot : Slot "list" name id) (hty : typeOf (.builtin id) = pure (.type "method_descriptor")) (e : adr α ο δ μ r = μ r) (h : Q (.builtin id, [.ref (μ r)]) s) : wpAny (model PP w) A (getMethod (.ref (μ r)) name pl) Q E s := by
  rw [← e] at h ⊢
  exact meth_list r G N hs hr hL slot hty h
theorem len_lo {r : Role} {vs : List Value} {Q : Value → Shared → Prop} (G : Good w α ω ο δ μ σ st) (N : News h₀ L s.heap news) (hs : ∀ p ∈ ledW α ο δ μ σ st, p ∈ news) (hr : r.ok st.n) (hL : IsLO (σ r) vs) (e : adr α ο δ μ r = μ r) (hz : vs.length ≤ 10000)
    (h : Q (.int vs.length (s.toks + 1)) { s with toks := s.toks + 1 + 1 }) : wpAny (model PP w) A (call (.builtin "len") [.ref (μ r)]) Q E s := by
  rw [← e]
  exact len_listW r G N hs hr hL hz h
theorem hold_in {M : Model} {n : Addr} {as : List Value} {kw : List (Str × Value)} {Q : Value → Shared → Prop} (l : List Nat) (_ : l.elem n = true) (h : Hold (wpAny M A (call (.ref n) as kw) Q E s)) : wpAny M A (call (.ref n) as kw) Q E s := Hold.mk h
end
section
variable {w : World} {α : Role → Addr} {ω : Role → Obj} {ο δ : Nat → Addr} {μ : Role → Addr} {A1 : Heap → Prop} {A2 A3 : Heap → List (Addr × Obj) → Prop} {C : Value → Heap → Tok → Prop} {l : List (Addr × Obj)} {c : Value}
theorem said_5 : True := by
  k_with "getMethod ref" => ((k_here; (with_reducible refine' meth_lo ?zqG ?zqN ?zqs ?zqok ?zqlg ?zqsl ?zqty ?zqr1 ?_); (first | ((case zqsl => exact PySem.F.slot_list_append); (case zqty => exact PySem.F.type_list_append)) | ((case zqsl => exact PySem.F.slot_list_pop); (case zqty => exact PySem.F.type_list_pop))); (k_extra "m_sw")))
  k_with "call builtin:list.append" => ((k_here; k_dflt ((((with_reducible refine' app_grey ?zqF ?zqN ?zqoff ?zqG ?zqz1 ?_); (k_extra "m_sn"))))))
  k_with "call builtin:list.append" => ((k_here; k_dflt ((((with_reducible refine' app_again ?zqF ?zqN ?zqoff ?zqG ?zqz1 ?_); (k_extra "m_sn"))))))
  k_with "call builtin:list.pop" => ((k_here; k_dflt ((with_reducible refine' pop_grey ?zqF ?zqN ?zqoff ?zqG ?zqe1 ?zqz1 ?_); (k_extra "m_sn"))))
  k_with "callWith ref" => ((k_here; (with_reducible show wpAny _ _ (callWith _ (Value.ref ((_ : Role → Addr) Role.fso)) _ _ _) _ _ _); k_dflt (refine' callWith_F (q := _) ?zqX ?_; (case zqX => exact fnAt_so (by assumption) (by assumption) (by k_asm) (by (k_extra "m_sub"))); k_whole)))
  k_with "callWith ref" => ((k_here; (with_reducible show wpAny _ _ (callWith _ (Value.ref ((_ : Role → Addr) Role.fch)) _ _ _) _ _ _); k_dflt (refine' callWith_F (q := _) ?zqX ?_; (case zqX => exact fnAt_ch (by assumption) (by assumption) (by k_asm) (by (k_extra "m_sub"))); k_whole)))
  k_with "And" => (((with_reducible show FnAt ((_ : Role → Addr) Role.fso) _ ∧ _); (refine ⟨fnAt_so (by assumption) (by assumption) (by k_asm) (by (k_extra "m_sub")), ?_⟩); try dsimp only [List.nil_append, List.cons_append]))
  k_with "And" => (((with_reducible show FnAt ((_ : Role → Addr) Role.fch) _ ∧ _); (refine ⟨fnAt_ch (by assumption) (by assumption) (by k_asm) (by (k_extra "m_sub")), ?_⟩); try dsimp only [List.nil_append, List.cons_append]))
  k_with "setAttr ref" => ((k_here; k_dflt (first | ((((with_reducible refine' set_phase ?zqF ?zqX ?zqN ?zqoff ?zqG ?zqi1 ?zqi2 ?zqi3 ?zqi4 ?_); (k_extra "m_sn")))) | ((((with_reducible refine' set_total ?zqF ?zqX ?zqN ?zqoff ?zqG ?zqi1 ?zqi2 ?zqi3 ?zqi4 ?_); (k_extra "m_sn")))) | ((((with_reducible refine' set_est ?zqF ?zqX ?zqN ?zqoff ?zqG ?zqi1 ?zqi2 ?zqi3 ?zqi4 ?_); (k_extra "m_sn")))) | ((((with_reducible refine' set_debt ?zqF ?zqX ?zqN ?zqoff ?zqG ?zqi1 ?zqi2 ?zqi3 ?zqi4 ?_); (k_extra "m_sn")))) | ((((with_reducible refine' set_thr ?zqF ?zqX ?zqN ?zqoff ?zqG ?zqi1 ?zqi2 ?zqi3 ?zqi4 ?_); (k_extra "m_sn")))) | ((((with_reducible refine' set_cycles ?zqF ?zqX ?zqN ?zqoff ?zqG ?zqi1 ?zqi2 ?zqi3 ?zqi4 ?_); (k_extra "m_sn")))))))
  k_with "setAttr ref" => ((k_here; k_dflt ((((with_reducible refine' set_white ?zqF ?zqX ?zqN ?zqoff ?zqG ?zqi1 ?zqi2 ?zqi3 ?zqi4 ?_); (k_extra "m_sn"))))))
  k_with "setAttr ref" => ((k_here; (with_reducible refine' set_mark ?zqF ?zqX ?zqN ?zqoff ?zqG ?zqok ?zqi1 ?zqi2 ?zqi3 ?zqi4 ?_); k_dflt ((case zqG => assumption); (k_extra "m_sn"))))
  k_with "setAttr ref" => ((k_here; k_dflt (first | ((((with_reducible refine' set_grey_nil ?zqF ?zqX ?zqN ?zqa1 ?zqG ?zqi1 ?zqi2 ?zqi3 ?zqi4 ?_); (k_extra "m_sk")))) | ((((with_reducible refine' set_again_nil ?zqF ?zqX ?zqN ?zqa1 ?zqG ?zqi1 ?zqi2 ?zqi3 ?zqi4 ?_); (k_extra "m_sk")))) | ((((with_reducible refine' set_weak_nil ?zqF ?zqX ?zqN ?zqa1 ?zqG ?zqi1 ?zqi2 ?zqi3 ?zqi4 ?_); (k_extra "m_sk")))))))
  k_with "call ref" => (((with_reducible refine' hold_in [84, 91, 98, 77, 105, 70, 56, 112, 119, 126] ?zqr ?_); (case zqr => decide)))
  k_with "exec While" => ((refine Hold.mk ?_))
  k_with "call builtin:len" => ((k_here; (with_reducible refine' len_lo ?zqG ?zqN ?zqs ?zqok ?zqlg ?zqr1 ?zqhz ?_); k_dflt ((k_extra "m_s"); (case zqhz => (simp only [refs, List.length_map]; (k_extra "m_small"))); (try simp only [refs, List.length_map]); k_whole)))
  k_with "m_enter" => ((refine' runs_of ?zqho ?zqhcd ?zqhnm ?zqhlen ?zqhnd ?zqhbind ?zqhloc ?zqc1 ?zqc2 ?zqc3 ?zqc4 ?_; (case zqho => k_is); (case zqhcd => k_is); (case zqhnm => ((dsimp only [List.map]); (try exact rfl))); (case zqhlen => exact rfl); (case zqhnd => decide +kernel); (case zqhbind => exact fun _ => BindsTo.of_eq rfl); (case zqhloc => exact locs rfl); (case zqc1 => exact rfl); (case zqc2 => exact rfl); (case zqc3 => exact rfl); (case zqc4 => decide); k_whole; intro p loose mean mg mb dp un gd outer A₀ base g L h₁ gens drawn tk os B F X N T hD hU; (try dsimp only [bindM] at F); (try k_fold)))
  trivial
/-- a reader is back -/
theorem kR (k : ∀ h' tk', A1 h' → A2 h' l → C c h' tk') : ∀ r nw h' tk', A1 h' → A2 h' nw → A3 h' nw → (nw = l ∧ r = c) → C r h' tk' := by
  rintro r nw h' tk' a b - ⟨rfl, rfl⟩; exact k h' tk' a b
theorem kRE {f : Tok → Value} (k : ∀ t h' tk', A1 h' → A2 h' l → C (f t) h' tk') : ∀ r nw h' tk', A1 h' → A2 h' nw → A3 h' nw → (nw = l ∧ ∃ t, r = f t) → C r h' tk' := by
  rintro r nw h' tk' a b - ⟨rfl, t, rfl⟩; exact k t h' tk' a b
theorem kRT (k : ∀ h' tk', A1 h' → A2 h' l → A3 h' l → C c h' tk') : ∀ r nw h' tk', A1 h' → A2 h' nw → A3 h' nw → (nw = l ∧ r = c) → C r h' tk' := by
  rintro r nw h' tk' a b a3 ⟨rfl, rfl⟩; exact k h' tk' a b a3
/-- a call that turns the world is back -/
theorem kE1 {X : St} (k : ∀ σ' h' tk', A1 h' → A2 h' (ledW α ο δ μ σ' X) → A3 h' (ledW α ο δ μ σ' X) → Good w α ω ο δ μ σ' X → C c h' tk') :
    ∀ r nw h' tk', A1 h' → A2 h' nw → A3 h' nw → PostW w α ω ο δ (fun v μ' st' => v = c ∧ μ = μ' ∧ st' = X) r nw → C r h' tk' := by
  rintro r nw h' tk' a b a3 ⟨μ', σ', st', rfl, G, rfl, rfl, rfl⟩; exact k σ' h' tk' a b a3 G
theorem kE2 {R : (Role → Addr) → Prop} {X : St} (k : ∀ μ' σ' h' tk', A1 h' → A2 h' (ledW α ο δ μ' σ' X) → A3 h' (ledW α ο δ μ' σ' X) → Good w α ω ο δ μ' σ' X → R μ' → C c h' tk') :
    ∀ r nw h' tk', A1 h' → A2 h' nw → A3 h' nw → PostW w α ω ο δ (fun v μ' st' => v = c ∧ R μ' ∧ st' = X) r nw → C r h' tk' := by
  rintro r nw h' tk' a b a3 ⟨μ', σ', st', rfl, G, rfl, hR, rfl⟩; exact k μ' σ' h' tk' a b a3 G hR
theorem kE3 {X : St} (k : ∀ i t σ' h' tk', A1 h' → A2 h' (ledW α ο δ μ σ' X) → A3 h' (ledW α ο δ μ σ' X) → Good w α ω ο δ μ σ' X → C (.int i t) h' tk') :
    ∀ r nw h' tk', A1 h' → A2 h' nw → A3 h' nw → PostW w α ω ο δ (fun v μ' st' => (∃ k t, v = .int k t) ∧ μ = μ' ∧ st' = X) r nw → C r h' tk' := by
  rintro r nw h' tk' a b a3 ⟨μ', σ', st', rfl, G, ⟨i, t, rfl⟩, rfl, rfl⟩; exact k i t σ' h' tk' a b a3 G
theorem kE4 {R : (Role → Addr) → Prop} {X : St} (k : ∀ i t μ' σ' h' tk', A1 h' → A2 h' (ledW α ο δ μ' σ' X) → A3 h' (ledW α ο δ μ' σ' X) → Good w α ω ο δ μ' σ' X → R μ' → C (.int i t) h' tk') :
    ∀ r nw h' tk', A1 h' → A2 h' nw → A3 h' nw → PostW w α ω ο δ (fun v μ' st' => (∃ k t, v = .int k t) ∧ R μ' ∧ st' = X) r nw → C r h' tk' := by
  rintro r nw h' tk' a b a3 ⟨μ', σ', st', rfl, G, ⟨i, t, rfl⟩, hR, rfl⟩; exact k i t μ' σ' h' tk' a b a3 G hR
theorem kE5 {many : Int} {X : St} (k : ∀ i t σ' h' tk', A1 h' → A2 h' (ledW α ο δ μ σ' X) → A3 h' (ledW α ο δ μ σ' X) → Good w α ω ο δ μ σ' X → 0 ≤ i → i < many → C (.int i t) h' tk') :
    ∀ r nw h' tk', A1 h' → A2 h' nw → A3 h' nw → PostW w α ω ο δ (fun v μ' st' => (∃ r t, v = .int r t ∧ 0 ≤ r ∧ r < many) ∧ μ = μ' ∧ st' = X) r nw → C r h' tk' := by
  rintro r nw h' tk' a b a3 ⟨μ', σ', st', rfl, G, ⟨i, t, rfl, h0, h1⟩, rfl, rfl⟩; exact k i t σ' h' tk' a b a3 G h0 h1
theorem kE6 {X : St} (k : ∀ μ' σ' h' tk', A1 h' → A2 h' (ledW α ο δ μ' σ' X) → A3 h' (ledW α ο δ μ' σ' X) → Good w α ω ο δ μ' σ' X → C c h' tk') :
    ∀ r nw h' tk', A1 h' → A2 h' nw → A3 h' nw → PostW w α ω ο δ (fun v _ st' => v = c ∧ st' = X) r nw → C r h' tk' := by
  rintro r nw h' tk' a b a3 ⟨μ', σ', st', rfl, G, rfl, rfl⟩; exact k μ' σ' h' tk' a b a3 G
theorem kE7 {R : St → Prop} (k : ∀ μ' σ' st' h' tk', A1 h' → A2 h' (ledW α ο δ μ' σ' st') → A3 h' (ledW α ο δ μ' σ' st') → Good w α ω ο δ μ' σ' st' → R st' → C c h' tk') :
    ∀ r nw h' tk', A1 h' → A2 h' nw → A3 h' nw → PostW w α ω ο δ (fun v _ st' => v = c ∧ R st') r nw → C r h' tk' := by
  rintro r nw h' tk' a b a3 ⟨μ', σ', st', rfl, G, rfl, hR⟩; exact k μ' σ' st' h' tk' a b a3 G hR
theorem kE8 {β γ : Type} {P1 : β → Prop} {P2 : γ → Prop} {X : β → γ → St} (k : ∀ b g μ' σ' h' tk', A1 h' → A2 h' (ledW α ο δ μ' σ' (X b g)) → A3 h' (ledW α ο δ μ' σ' (X b g)) → Good w α ω ο δ μ' σ' (X b g) → P1 b → P2 g → C c h' tk') :
    ∀ r nw h' tk', A1 h' → A2 h' nw → A3 h' nw → PostW w α ω ο δ (fun v _ st' => v = c ∧ ∃ b g, P1 b ∧ P2 g ∧ st' = X b g) r nw → C r h' tk' := by
  rintro r nw h' tk' a b a3 ⟨μ', σ', st', rfl, G, rfl, x, y, p1, p2, rfl⟩; exact k x y μ' σ' h' tk' a b a3 G p1 p2
end
theorem said_6 : True := by
  k_with "m_rd" => ((k_dflt ((k_extra "m_s"); k_whole; (try dsimp only); refine kR ?_; intros; (try k_sweep); (try dsimp only))))
  k_with "m_rdE" => ((k_dflt ((k_extra "m_s"); k_whole; (try dsimp only); refine kRE ?_; intros; (try k_sweep); (try dsimp only))))
  k_with "m_reader" => (((try dsimp only); refine Done.intro (by k_asm) (by k_asm) ⟨rfl, ?_⟩))
  trivial
theorem doneW {w : World} {α : Role → Addr} {ω : Role → Obj} {ο δ : Nat → Addr} {μ' : Role → Addr} {σ' : Role → Obj} {st' : St} {P : Value → (Role → Addr) → St → Prop} {g h' : Heap} {L' : Addr} {gens : Array GenState} {drawn : Drawn} {os : OsState} {v : Value} {tk' : Nat} {m' : Str → Option Value} {news' : List (Addr × Obj)}
    (G : Good w α ω ο δ μ' σ' st') (F : Fr g L' h' m') (N : News g L' h' news') (hs : ∀ p ∈ ledW α ο δ μ' σ' st', p ∈ news') (hP : P v μ' st') : Done g L' gens drawn os (PostW w α ω ο δ P) v ⟨h', gens, drawn, tk', os⟩ :=
  Done.intro F (News.sub N hs) ⟨μ', σ', st', rfl, G, hP⟩
theorem said_7 : True := by
  k_with "m_done" => (((try dsimp only); refine' doneW ?zqG ?zqF ?zqN ?zqhs ?_; (case zqG => assumption); (case zqF => k_asm); (case zqN => k_asm); (case zqhs => (k_extra "m_sub"))))
  trivial
theorem m_fill0 : ∀ w : World, (PySem.Challenge.rw_sm0060_01.name, hd0.heap_1 w.params) = (PySem.Challenge.rw_sm0060_01.name, hd0.heap_1 w.params) := by
  k_fill; intro w; rfl
end

section
open PySem PySem.W PyProof.Rows
section
variable {k : Nat} {fr : List Nat} {st : St}
/-- steps to the end of a cycle, at most -/
noncomputable def meas (st : St) : Nat := if st.phase = 0 then st.live.length + 4 else if st.phase = 1 then whites st + st.grey.length + 3 else if st.phase = 2 then 2 else 1
theorem meas_pos (st : St) : 1 ≤ meas st := by unfold meas; split; (first | lia | omega); split; (first | lia | omega); split <;> (first | lia | omega)
theorem InvF.meas_le (h : InvF k fr st) : meas st ≤ st.live.length + 4 := by
  unfold meas
  split
  · (first | lia | omega)
  · split
    · have := (h.p1 (by assumption)).s; (first | lia | omega)
    · split <;> (first | lia | omega)
theorem begin_cycles (st : St) : ((begin st).setPhase 1).cycles = st.cycles := (foldF_same 20 st.roots (forget st)).a.cycles
theorem InvF.meas_step (h : InvF k fr st) : (st.phase = 3 ∧ (single st).cycles = st.cycles + 1) ∨ (st.phase ≠ 3 ∧ (single st).cycles = st.cycles ∧ meas (single st) + 1 ≤ meas st) := by
  rcases h.ph with hp | hp | hp | hp
  · right
    have hb := h.begins (.inl hp)
    refine ⟨by (first | lia | omega), by rw [single_0 hp]; exact begin_cycles st, ?_⟩
    have h1 := (hb.2.p1 rfl).s
    rw [begin_live] at h1
    replace h1 := h1
    rw [single_0 hp]
    have e1 : meas ((begin st).setPhase 1) = whites ((begin st).setPhase 1) + ((begin st).setPhase 1).grey.length + 3 := by
      unfold meas
      rw [if_neg (by show ¬ (1 : Int) = 0; (first | lia | omega)), if_pos (show ((begin st).setPhase 1).phase = 1 from rfl)]
    have e2 : meas st = st.live.length + 4 := by unfold meas; rw [if_pos hp]
    (first | lia | omega)
  · right
    have e2 : meas st = whites st + st.grey.length + 3 := by unfold meas; rw [if_neg (by (first | lia | omega)), if_pos hp]
    cases hgl : st.grey.getLast? with
    | none =>
      have hg := List.getLast?_eq_none_iff.mp hgl
      obtain ⟨_, _, _, _, _, _, _, _, h8, h9, _⟩ := atomic_same h hp
      rw [single_1e hp hg]
      refine ⟨by (first | lia | omega), h9, ?_⟩
      have e1 : meas (atomic st) = 2 := by unfold meas; rw [h8, if_neg (by (first | lia | omega)), if_neg (by (first | lia | omega)), if_pos rfl]
      (first | lia | omega)
    | some i =>
      have hg := last_split hgl
      have p := propAt_pr h.wg hg
      rw [single_1 hp hg]
      refine ⟨by (first | lia | omega), p.same.cycles, ?_⟩
      have e1 : meas (propAt st st.grey.dropLast i) = whites (propAt st st.grey.dropLast i) + (propAt st st.grey.dropLast i).grey.length + 3 := by
        unfold meas; rw [p.same.phase, hp, if_neg (by (first | lia | omega)), if_pos rfl]
      have := p.sum
      (first | lia | omega)
  · right
    have r := h.sws hp
    rw [single_2 hp]
    refine ⟨by (first | lia | omega), r.same.cycles, ?_⟩
    have e1 : meas (sweepStep st) = 1 := by unfold meas; rw [r.phase, if_neg (by (first | lia | omega)), if_neg (by (first | lia | omega)), if_neg (by (first | lia | omega))]
    have e2 : meas st = 2 := by unfold meas; rw [hp, if_neg (by (first | lia | omega)), if_neg (by (first | lia | omega)), if_pos rfl]
    (first | lia | omega)
  · left
    exact ⟨hp, by rw [single_3 hp]; rfl⟩
theorem InvF.live_step (h : InvF k fr st) : ∀ j ∈ (single st).live, j ∈ st.live := by
  rcases h.ph with hp | hp | hp | hp
  · rw [single_0 hp, begin_live]; exact fun _ h => h
  · cases hgl : st.grey.getLast? with
    | none =>
      have hg := List.getLast?_eq_none_iff.mp hgl
      rw [single_1e hp hg, (atomic_same h hp).1]; exact fun _ h => h
    | some i =>
      have hg := last_split hgl
      rw [single_1 hp hg, (propAt_pr h.wg hg).same.live]; exact fun _ h => h
  · rw [single_2 hp]; exact fun j hj => ((h.sws hp).live j |>.mp hj).1
  · rw [single_3 hp]; exact fun _ h => h
theorem InvF.llen_step (h : InvF k fr st) : (single st).live.length ≤ st.live.length := sub_len h.steps.lnd h.live_step
theorem meas_setFreed (s : St) (l : List Nat) : meas (s.setFreed l) = meas s := rfl
end
end

section
open PySem PySem.W PyProof.Rows
section
variable {k : Nat} {fr : List Nat} {st : St}
theorem InvF.up (h : InvF k fr st) {k' : Nat} (h1 : k ≤ k') (h2 : k' ≤ 12) : InvF k' fr st :=
  ⟨h.wf, h.n1, h2, by have := h.nk; (first | lia | omega), fun i hi => by have := h.ek i hi; (first | lia | omega), by have := h.ak; (first | lia | omega), h.roots, h.one, h.perm, h.tot, h.wh, h.ph, h.clo, h.lm, h.fm, h.gl, h.gn, h.al, h.sl, h.g0, h.p03,
    fun hq => by have r := h.p1 hq; exact ⟨r.w, r.b, r.g, r.r, r.s, by have := r.a; (first | lia | omega)⟩, h.p2⟩
theorem InvF.setTurn (h : InvF k fr st) (t : Nat) : InvF k fr (st.setTurn t) :=
  ⟨⟨h.wf.small, h.wf.sort, h.wf.size, h.wf.edge, h.wf.elen⟩, h.n1, h.k12, h.nk, h.ek, h.ak, h.roots, h.one, h.perm, h.tot, h.wh, h.ph, h.clo, h.lm, h.fm, h.gl, h.gn, h.al, h.sl, h.g0, h.p03,
    fun hq => by have r := h.p1 hq; exact ⟨r.w, r.b, r.g, r.r, r.s, r.a⟩, fun hq => by have r := h.p2 hq; exact ⟨r.l, r.r, r.c⟩⟩
/-- another list of edges -/
theorem InvF.edged (h : InvF k fr st) {p : Nat} {l : List Nat} (hl : ∀ c ∈ l, c ∈ st.live) (hlen : l.length ≤ 3 + k)
    (h1 : st.phase = 1 → st.mark p = 3 → ∀ c ∈ l, 2 ≤ st.mark c) (h2 : st.phase = 2 → st.mark p ≠ 1 - st.white → ∀ c ∈ l, st.mark c ≠ 1 - st.white) : InvF k fr (st.setEdge p l) := by
  have hk := h.k12
  refine ⟨⟨h.wf.small, h.wf.sort, h.wf.size, ?_, ?_⟩, h.n1, h.k12, h.nk, ?_, h.ak, h.roots, h.one, h.perm, h.tot, h.wh, h.ph, ?_, h.lm, h.fm, h.gl, h.gn, h.al, h.sl, h.g0, h.p03, ?_, ?_⟩
  · intro i hi c hc
    by_cases e : i = p
    · have hc : c ∈ (if i = p then l else st.edges i) := hc
      rw [if_pos e] at hc
      exact h.lok (hl c hc)
    · have hc : c ∈ (if i = p then l else st.edges i) := hc
      rw [if_neg e] at hc
      exact h.wf.edge i hi c hc
  · intro i hi
    show (if i = p then l else st.edges i).length ≤ _
    by_cases e : i = p
    · rw [if_pos e]; (first | lia | omega)
    · rw [if_neg e]; exact h.wf.elen i hi
  · intro i hi
    show (if i = p then l else st.edges i).length ≤ _
    by_cases e : i = p
    · rw [if_pos e]; exact hlen
    · rw [if_neg e]; exact h.ek i hi
  · intro i hi c hc
    have hc : c ∈ (if i = p then l else st.edges i) := hc
    by_cases e : i = p
    · rw [if_pos e] at hc; exact hl c hc
    · rw [if_neg e] at hc; exact h.clo i hi c hc
  · intro hq
    have r := h.p1 hq
    refine ⟨r.w, fun i hi h3 c hc => ?_, r.g, r.r, r.s, r.a⟩
    have hc : c ∈ (if i = p then l else st.edges i) := hc
    by_cases e : i = p
    · rw [if_pos e] at hc; exact h1 hq (e ▸ h3) c hc
    · rw [if_neg e] at hc; exact r.b i hi h3 c hc
  · intro hq
    have r := h.p2 hq
    refine ⟨r.l, r.r, fun i hi h3 c hc => ?_⟩
    have hc : c ∈ (if i = p then l else st.edges i) := hc
    by_cases e : i = p
    · rw [if_pos e] at hc; exact h2 hq (e ▸ h3) c hc
    · rw [if_neg e] at hc; exact r.c i hi h3 c hc
/-- one more is marked -/
theorem InvF.marks (h : InvF k fr st) (hp : st.phase = 1) {c : Nat} (hc : c ∈ st.live) : InvF k fr (markF 20 st c) := by
  have hwg := h.wg
  have hck := h.lok hc
  have hwl := h.whites_le
  have hll := h.llen
  have hsm := h.wf.small
  obtain ⟨m, _⟩ := markF_mk 20 st c h.wf hck (by (first | lia | omega))
  have hsum := markF_sum 20 st c h.wf hck
  have hnd := markF_nd 20 st c (fun j hj => by rw [(h.gl j hj).2]; (first | lia | omega)) h.gn
  have hgk := markF_grey 20 st c h.wf hck hwg.grey
  generalize markF 20 st c = b at m hsum hnd hgk ⊢
  have hs : SameA st b := m.same.a
  have hag : b.again = st.again := SameM.again m.same
  have hw := h.wh
  have q := h.p1 hp
  have hlow : ∀ j, st.ok j → st.mark j < 2 → j ∈ st.live := fun j hj h2 => by
    rcases h.split hj with h3 | h3
    · exact h3
    · rw [h.fm j h3] at h2; (first | lia | omega)
  have hph : b.phase = 1 := by rw [hs.phase]; exact hp
  have e : b.setPhase 1 = b := by cases b; simp only at hph; subst hph; rfl
  rw [← e]
  have hqs := q.s
  have hqa := q.a
  refine h.turn hs 1 (by (first | lia | omega)) (by rw [hag]; exact h.ak) (fun j hj => ?_) (fun j hj => ?_) (fun j hj => ?_) hnd.2 (fun j hj => ?_) (by (first | lia | omega)) (by (first | lia | omega)) (fun _ => ?_) (by (first | lia | omega))
  · have hl := h.lm j hj
    by_cases h2 : st.mark j < 2
    · rcases m.new j h2 with e | e | e <;> rw [e] <;> (first | lia | omega)
    · rw [m.old j (by (first | lia | omega))]; exact hl
  · have hm := h.fm j hj
    rw [m.old j (by (first | lia | omega))]; exact hm
  · rcases m.greyIn j hj with h1 | ⟨h2, h3⟩
    · have h4 := h.gl j h1
      exact ⟨h4.1, by rw [m.old j (by (first | lia | omega))]; exact h4.2⟩
    · exact ⟨hlow j (hgk j hj) h2, h3⟩
  · rw [hag] at hj
    rcases h.al j hj with h1 | h1
    · exact .inl h1
    · exact absurd hp h1.1
  · refine ⟨fun j hj => ?_, fun j hj h3 c hc => ?_, fun j hj h2 => ?_, ?_, ?_, ?_⟩
    · rw [hs.live] at hj; rw [hs.white]
      have hqw := q.w j hj
      by_cases h2 : st.mark j < 2
      · rcases m.new j h2 with e | e | e <;> rw [e] <;> (first | lia | omega)
      · rw [m.old j (by (first | lia | omega))]; exact hqw
    · rw [hs.live] at hj; rw [hs.edges] at hc
      by_cases h2 : st.mark j < 2
      · exact m.black j h2 h3 c hc
      · rw [m.old j (by (first | lia | omega))] at h3
        exact m.up (q.b j hj h3 c hc)
    · rw [hs.live] at hj; rw [hag]
      by_cases h4 : st.mark j < 2
      · exact .inl (m.greyNew j h4 h2)
      · rw [m.old j (by (first | lia | omega))] at h2
        rcases q.g j hj h2 with h5 | h5
        · exact .inl (m.greyOld j h5)
        · exact .inr h5
    · exact m.up q.r
    · rw [hs.live]; (first | lia | omega)
    · rw [hag]; (first | lia | omega)
theorem setPhase_self {b : St} {p : Int} (h : b.phase = p) : b.setPhase p = b := by cases b; simp only at h; subst h; rfl
theorem whites_two (h : 2 ≤ st.mark p) (j : Int) (hj : 2 ≤ j) : whites (st.setMark p j) = whites st := by
  unfold whites
  congr 1
  refine List.filter_congr fun x _ => ?_
  rw [setMark_mark]
  by_cases e : x = p
  · subst e; rw [if_pos rfl]; simp; (first | lia | omega)
  · rw [if_neg e]
/-- a black one is white again -/
theorem InvF.whiten (h : InvF k fr st) (hp : st.phase = 2) {p : Nat} (hl : p ∈ st.live) (hm : st.mark p = 3) : InvF k fr (st.setMark p st.white) := by
  have q := h.p2 hp
  have hw := h.wh
  have e : (st.setMark p st.white).setPhase 2 = st.setMark p st.white := setPhase_self hp
  rw [← e]
  have hg := h.g0 (by (first | lia | omega))
  refine h.turn (b := st.setMark p st.white) rfl 2 (by (first | lia | omega)) h.ak (fun j hj => ?_) (fun j hj => ?_) (fun j hj => ?_) h.gn (fun j hj => ?_) (fun _ => hg) (by (first | lia | omega)) (by (first | lia | omega)) (fun _ => ?_)
  · have := h.lm j hj
    rw [setMark_mark]; split <;> (first | lia | omega)
  · rw [setMark_mark, if_neg (fun (e : j = p) => h.apart hl (e ▸ hj))]; exact h.fm j hj
  · have hj : j ∈ st.grey := hj
    rw [hg] at hj; cases hj
  · rcases h.al j hj with h1 | h1
    · exact .inl h1
    · exact .inr ⟨by (first | lia | omega), h1.2⟩
  · refine ⟨fun j hj => ?_, ?_, fun j hj h3 c hc => ?_⟩
    · rw [setMark_mark]
      split
      · exact .inl rfl
      · exact q.l j hj
    · rw [setMark_mark]
      show (if 1 = p then st.white else st.mark 1) ≠ 1 - st.white
      have := q.r
      split <;> (first | lia | omega)
    · show (st.setMark p st.white).mark c ≠ 1 - st.white
      have h3 : (st.setMark p st.white).mark j ≠ 1 - st.white := h3
      rw [setMark_mark] at h3 ⊢
      split
      · (first | lia | omega)
      · refine q.c j hj ?_ c hc
        by_cases e : j = p
        · subst e; (first | lia | omega)
        · rw [if_neg e] at h3; exact h3
/-- a black one is grey again -/
theorem InvF.back (h : InvF k fr st) (hp : st.phase = 1) {p : Nat} (hl : p ∈ st.live) (hk : k < 12) : InvF (k + 1) fr (barrierBack st p) := by
  have h' := h.up (Nat.le_succ k) hk
  unfold barrierBack
  by_cases hm : st.mark p = 3
  · rw [if_pos hm]
    have q := h.p1 hp
    have hw := h.wh
    have ha := h.ak
    have e : ({ st.setMark p 2 with again := st.again ++ [p] } : St).setPhase 1 = { st.setMark p 2 with again := st.again ++ [p] } := setPhase_self hp
    rw [← e]
    have hwh : whites ({ st.setMark p 2 with again := st.again ++ [p] } : St) = whites st := whites_two (by (first | lia | omega)) 2 (by (first | lia | omega))
    refine h'.turn (b := { st.setMark p 2 with again := st.again ++ [p] }) rfl 1 (by (first | lia | omega)) ?_ (fun j hj => ?_) (fun j hj => ?_) (fun j hj => ?_) h.gn (fun j hj => ?_) (by (first | lia | omega)) (by (first | lia | omega)) (fun _ => ?_) (by (first | lia | omega))
    · show (st.again ++ [p]).length ≤ _
      rw [List.length_append, List.length_singleton]; (first | lia | omega)
    · have := h.lm j hj
      show 0 ≤ (st.setMark p 2).mark j ∧ (st.setMark p 2).mark j ≤ 3
      rw [setMark_mark]; split <;> (first | lia | omega)
    · show (st.setMark p 2).mark j = 4
      rw [setMark_mark, if_neg (fun (e : j = p) => h.apart hl (e ▸ hj))]; exact h.fm j hj
    · obtain ⟨h1, h2⟩ := h.gl j hj
      refine ⟨h1, ?_⟩
      show (st.setMark p 2).mark j = 2
      rw [setMark_mark]; split
      · rfl
      · exact h2
    · rcases List.mem_append.mp hj with h1 | h1
      · rcases h.al j h1 with h2 | h2
        · exact .inl h2
        · exact absurd hp h2.1
      · rw [List.mem_singleton.mp h1]; exact .inl hl
    · have hs := q.s
      have hqa := q.a
      refine ⟨fun j hj => ?_, fun j hj h3 c hc => ?_, fun j hj h2 => ?_, ?_, ?_, ?_⟩
      · show (st.setMark p 2).mark j ≠ 1 - st.white
        have := q.w j hj
        rw [setMark_mark]; split <;> (first | lia | omega)
      · have h3 : (st.setMark p 2).mark j = 3 := h3
        show 2 ≤ (st.setMark p 2).mark c
        rw [setMark_mark] at h3 ⊢
        by_cases e : j = p
        · rw [if_pos e] at h3; (first | lia | omega)
        · rw [if_neg e] at h3
          have := q.b j hj h3 c hc
          split <;> (first | lia | omega)
      · have h2 : (st.setMark p 2).mark j = 2 := h2
        show j ∈ st.grey ∨ j ∈ st.again ++ [p]
        rw [setMark_mark] at h2
        by_cases e : j = p
        · exact .inr (by rw [e]; simp)
        · rw [if_neg e] at h2
          rcases q.g j hj h2 with h5 | h5
          · exact .inl h5
          · exact .inr (by simp [h5])
      · show 2 ≤ (st.setMark p 2).mark 1
        have := q.r
        rw [setMark_mark]; split <;> (first | lia | omega)
      · rw [hwh]; exact hs
      · rw [hwh]
        show _ + st.grey.length + (st.again ++ [p]).length ≤ _
        rw [List.length_append, List.length_singleton]; (first | lia | omega)
  · rw [if_neg hm]; exact h'
/-- a marking and another list of a black one's edges -/
theorem markF_edge {p : Nat} {l : List Nat} : ∀ (n : Nat) (st : St) (c : Nat), 2 ≤ st.mark p → markF n (st.setEdge p l) c = (markF n st c).setEdge p l
  | 0, _, _, _ => rfl
  | n + 1, st, c, hp => by
    unfold markF
    by_cases hc : st.mark c < 2
    · rw [if_pos (show (st.setEdge p l).mark c < 2 from hc), if_pos hc]
      have hne : c ≠ p := by rintro rfl; (first | lia | omega)
      by_cases hs : st.sort c = 1
      · rw [if_pos (show (st.setEdge p l).sort c = 1 from hs), if_pos hs]
        have fold : ∀ (L : List Nat) (a : St), 2 ≤ a.mark p → L.foldl (markF n) (a.setEdge p l) = (L.foldl (markF n) a).setEdge p l := fun L => by
          induction L with
          | nil => exact fun _ _ => rfl
          | cons x L ih =>
            intro a ha
            rw [List.foldl_cons, List.foldl_cons, markF_edge n a x ha]
            refine ih _ ?_
            by_cases h2 : (markF n a x).mark p < 2
            · have := (markF_white n a x p h2).2; (first | lia | omega)
            · (first | lia | omega)
        have e1 : (st.setEdge p l).edges c = st.edges c := by show (if c = p then l else st.edges c) = _; rw [if_neg hne]
        rw [e1]
        refine fold (st.edges c) (st.setMark c 3) ?_
        rw [setMark_mark]; split <;> (first | lia | omega)
      · rw [if_neg (show ¬ (st.setEdge p l).sort c = 1 from hs), if_neg hs]; rfl
    · rw [if_neg (show ¬ (st.setEdge p l).mark c < 2 from hc), if_neg hc]
/-- one more edge, and the barrier -/
theorem InvF.append (h : InvF k fr st) {p c : Nat} (hp : p ∈ st.live) (hc : c ∈ st.live) (hlen : (st.edges p).length < 3 + k) (h2 : st.phase = 2 → st.mark c ≠ 1 - st.white) :
    InvF k fr (barrier (st.setEdge p (st.edges p ++ [c])) p c (decide (st.phase = 1))) := by
  have hle : (st.edges p ++ [c]).length ≤ 3 + k := by rw [List.length_append, List.length_singleton]; (first | lia | omega)
  have hin : ∀ x ∈ st.edges p ++ [c], x ∈ st.live := fun x hx => by
    rcases List.mem_append.mp hx with h3 | h3
    · exact h.clo p hp x h3
    · rw [List.mem_singleton.mp h3]; exact hc
  have h22 : st.phase = 2 → st.mark p ≠ 1 - st.white → ∀ x ∈ st.edges p ++ [c], st.mark x ≠ 1 - st.white := fun hq h3 x hx => by
    rcases List.mem_append.mp hx with h4 | h4
    · exact (h.p2 hq).c p hp h3 x h4
    · rw [List.mem_singleton.mp h4]; exact h2 hq
  unfold barrier
  by_cases hb : st.mark p ≠ 3 ∨ ¬ st.mark c < 2 ∨ st.dead c
  · rw [if_pos (show (st.setEdge p (st.edges p ++ [c])).mark p ≠ 3 ∨ ¬ (st.setEdge p (st.edges p ++ [c])).mark c < 2 ∨ (st.setEdge p (st.edges p ++ [c])).dead c from hb)]
    refine h.edged hin hle (fun hq h3 x hx => ?_) h22
    rcases List.mem_append.mp hx with h4 | h4
    · exact (h.p1 hq).b p hp h3 x h4
    · rw [List.mem_singleton.mp h4]
      have hd := h.dead_iff hc
      have hw := (h.p1 hq).w c hc
      rcases hb with h5 | h5 | h5
      · exact absurd h3 h5
      · (first | lia | omega)
      · exact absurd (hd.mp h5) hw
  · rw [if_neg (show ¬ ((st.setEdge p (st.edges p ++ [c])).mark p ≠ 3 ∨ ¬ (st.setEdge p (st.edges p ++ [c])).mark c < 2 ∨ (st.setEdge p (st.edges p ++ [c])).dead c) from hb)]
    have hb1 : st.mark p = 3 := Classical.byContradiction fun e => hb (.inl e)
    have hb2 : st.mark c < 2 := Classical.byContradiction fun e => hb (.inr (.inl e))
    have hw := h.wh
    by_cases hq : st.phase = 1
    · rw [if_pos (by simpa using hq), markF_edge 20 st c (by (first | lia | omega))]
      have hI := h.marks hq hc
      have hck := h.lok hc
      have hwl := h.whites_le
      have hll := h.llen
      have hsm := h.wf.small
      obtain ⟨m, m2⟩ := markF_mk 20 st c h.wf hck (by (first | lia | omega))
      have hs : SameA st (markF 20 st c) := m.same.a
      refine hI.edged (by rw [hs.live]; exact hin) hle (fun _ h3 x hx => ?_) (fun hq2 => ?_)
      · rcases List.mem_append.mp hx with h4 | h4
        · exact m.up ((h.p1 hq).b p hp hb1 x h4)
        · rw [List.mem_singleton.mp h4]; exact m2
      · rw [hs.phase] at hq2; (first | lia | omega)
    · rw [if_neg (by simpa using hq)]
      have hp2 : st.phase = 2 := by
        rcases h.ph with h3 | h3 | h3 | h3
        · have := h.p03 (.inl h3) p hp; (first | lia | omega)
        · exact absurd h3 hq
        · exact h3
        · have := h.p03 (.inr h3) p hp; (first | lia | omega)
      have hI := h.whiten hp2 hp hb1
      refine hI.edged hin hle (fun h3 => absurd h3 hq) (fun _ h3 x hx => ?_)
      show (st.setMark p st.white).mark x ≠ 1 - st.white
      rw [setMark_mark]
      split
      · (first | lia | omega)
      · exact h22 hp2 (by (first | lia | omega)) x hx
end
end

section
open PySem PySem.W PySem.Calls PyProof.Rows
variable {w : World} {α : Role → Addr} {ω : Role → Obj} {ο δ : Nat → Addr} {μ : Role → Addr} {σ : Role → Obj} {st : St}
/-- a function that turns nothing -/
noncomputable abbrev Reads1 (w : World) (f : Addr) (args : List Value) (D U : Nat) (α : Role → Addr) (ο δ : Nat → Addr) (μ : Role → Addr) (σ : Role → Obj) (st : St) (P : Value → Prop) : Prop :=
  Runs w f args D U (ledW α ο δ μ σ st) (fun v news' => news' = ledW α ο δ μ σ st ∧ P v)
theorem is_white_spec {i : Nat} (G : Good w α ω ο δ μ σ st) (hi : 1 ≤ i ∧ i ≤ st.n) : Reads1 w 28 [.ref (ο i)] 2 40 α ο δ μ σ st (fun v => v = .bool (decide (st.mark i < 2))) := by
  (k_extra "m_enter")
  k_steps
  (k_extra "m_reader")
  rfl
theorem said_8 : True := by
  k_with "call ref" => (((with_reducible refine' Runs.call (is_white_spec ?zqG ?zqok) ?zqB ?zqF ?zqX ?zqN ?zqT ?zqr1 ?zqr2 ?zqr3 ?zqr4 ?zqro ?zqun ?_); (k_extra "m_rd")))
  k_with "m_norm" => (try simp only [setMark_setMark])
  k_with "call ref" => (((with_reducible refine' Runs.call (so_at ?zqa1 ?zqG ?zqok ?zqa2) ?zqB ?zqF ?zqX ?zqN ?zqT ?zqr1 ?zqr2 ?zqr3 ?zqr4 ?zqro ?zqun ?_); (k_extra "m_rdE")))
  trivial
theorem is_dead_spec {i : Nat} (G : Good w α ω ο δ μ σ st) (hi : 1 ≤ i ∧ i ≤ st.n) : Reads1 w 49 [.ref (α .marks), .ref (ο i)] 10 80 α ο δ μ σ st (fun v => v = .bool (st.dead i)) := by
  (k_extra "m_enter")
  k_steps
  all_goals ((k_extra "m_reader"); congr 1; unfold St.dead)
  · simp_all
  · by_cases e : st.mark i = st.white <;> simp_all
  · have : ¬ st.mark i < 2 := by omega
    simp_all; omega
theorem make_white_spec {i : Nat} (G : Good w α ω ο δ μ σ st) (hi : 1 ≤ i ∧ i ≤ st.n) : Runs w 56 [.ref (α .marks), .ref (ο i)] 10 80 (ledW α ο δ μ σ st) (PostW w α ω ο δ fun v μ' st' => v = .none ∧ μ = μ' ∧ st' = st.setMark i st.white) := by
  (k_extra "m_enter")
  k_steps
  (k_extra "m_done")
  exact ⟨rfl, rfl, rfl⟩
theorem flip_spec (G : Good w α ω ο δ μ σ st) : Runs w 112 [.ref (α .marks)] 10 80 (ledW α ο δ μ σ st) (PostW w α ω ο δ fun v μ' st' => v = .none ∧ μ = μ' ∧ st' = flip st) := by
  (k_extra "m_enter")
  k_steps
  (k_extra "m_done")
  exact ⟨rfl, rfl, rfl⟩
/-- «mark» -/
theorem mark_spec (Fn : Fns w α ω) : ∀ (k : Nat) (σ : Role → Obj) (st : St) (i : Nat), Good w α ω ο δ μ σ st → Wf st → st.ok i → whites st < k → whites st + st.grey.length ≤ 1000 →
    Runs w 84 [.ref (α .marks), .ref (ο i)] (10 * k + 40) (100 * k + 400) (ledW α ο δ μ σ st) (PostW w α ω ο δ fun v μ' st' => v = .none ∧ μ = μ' ∧ st' = markF k st i)
  | 0, _, _, _, _, _, _, hk, _ => absurd hk (Nat.not_lt_zero _)
  | k + 1, σ, st, i, G, hw, hi, hk, hz => by
    have hsum : ∀ j, whites (markF k (st.setMark i 3) j) = whites (markF k (st.setMark i 3) j) := fun _ => rfl
    rcases hw.sort i hi with hs | hs | hs
    · (k_extra "m_enter")
      k_steps
      · (k_extra "m_done")
        refine ⟨rfl, rfl, ?_⟩
        rw [markF, if_pos (by assumption), if_neg (by omega)]; rfl
      · (k_extra "m_done")
        refine ⟨rfl, rfl, ?_⟩
        rw [markF, if_neg (by omega)]
    · (k_extra "m_enter")
      k_steps
      · ((refine' Runs.call (Fn.ch ο δ μ _ _ i (by assumption) (((SameM.setMark st i 2).trans (SameM.setMark _ i 3)).wf hw) hi) ?Bq17 ?Fq17 ?Xq17 ?Nq17 ?Tq17 ?hAq17 ?hfq17 ?hkq17 ?hhq17 ?hdq17 ?huq17 ?_; (case Bq17 => k_asm); (case Fq17 => k_asm); (case Xq17 => k_asm); (case Nq17 => (k_extra "m_news")); (case Tq17 => k_asm); (case hAq17 => exact rfl); (case hfq17 => exact rfl); (case hkq17 => exact rfl); (case hhq17 => exact rfl); (case hdq17 => (k_extra "m_room")); (case huq17 => (k_extra "m_units")); k_whole; (try dsimp only)))
        intro r nw h2 tk2 F2 N2 hKp hJ0
        clear hKp
        (try dsimp only)
        (try k_fold)
        obtain ⟨a, kk, rfl, rfl, off⟩ := hJ0
        rename Good w α ω ο δ μ _ ((st.setMark i 2).setMark i 3) => G2
        rw [setMark_setMark] at G2 N2 off
        have hlt := whites_set (k := 3) hi (by assumption) (by omega)
        have hw3 := (SameM.setMark st i 3).wf hw
        refine iter_led (l := a) (vs := refs ο (st.edges i)) (kk := kk) (tm := [(a, W.listOf (refs ο (st.edges i)).toArray kk)]) (fun j => ((st.edges i).take j).foldl (markF k) (st.setMark i 3)) rfl F2 N2 off G2 (fun _ _ _ => .head _) ?_ ?_
        · intro j v σ' I io h3 tk3 hv G3 F3 N3 off3
          obtain ⟨c, hc, rfl⟩ := refs_get hv
          have hck : st.ok c := hw.edge i hi c (List.mem_of_getElem? hc)
          dsimp only at G3 N3 off3
          have hsm := foldF_same k ((st.edges i).take j) (st.setMark i 3)
          have hwh := foldF_whites k ((st.edges i).take j) (st.setMark i 3)
          have hsu := foldF_sum k ((st.edges i).take j) (st.setMark i 3) hw3 (fun c hc => hw.edge i hi c (List.mem_of_mem_take hc))
          have hgr : (st.setMark i 3).grey = st.grey := rfl
          rw [hgr] at hsu
          k_steps
          unfold Hold
          (try k_fold)
          ((refine' Runs.callT (mark_spec Fn k σ' _ c G3 (hsm.wf hw3) (hsm.ok hck) (by omega) (by omega)) ?offq18 ?Bq18 ?Fq18 ?Xq18 ?Nq18 ?Tq18 ?hAq18 ?hfq18 ?hkq18 ?hhq18 ?hdq18 ?huq18 ?_; (case offq18 => assumption); (case Bq18 => k_asm); (case Fq18 => k_asm); (case Xq18 => k_asm); (case Nq18 => (k_extra "m_news")); (case Tq18 => k_asm); (case hAq18 => exact rfl); (case hfq18 => exact rfl); (case hkq18 => exact rfl); (case hhq18 => exact rfl); (case hdq18 => (k_extra "m_room")); (case huq18 => (k_extra "m_units")); k_whole; (try dsimp only)))
          refine kE1 ?_
          intro σ4 h4 tk4 F4 N4 off4 G4
          (try dsimp only)
          (try k_fold)
          k_steps
          rw [← foldl_take (markF k) (st.setMark i 3) hc] at G4 N4 off4
          exact LedEnd.intro F4 N4 off4 G4
        · intro σ' u h3 tk3 G3 F3 N3 off3
          have e : (refs ο (st.edges i)).length = (st.edges i).length := by simp [refs]
          rw [e, List.take_length] at G3 N3 off3
          k_steps
          (k_extra "m_done")
          refine ⟨rfl, rfl, ?_⟩
          rw [markF, if_pos (by assumption), if_pos hs]
      · (k_extra "m_done")
        refine ⟨rfl, rfl, ?_⟩
        rw [markF, if_neg (by omega)]
    · (k_extra "m_enter")
      k_steps
      · (k_extra "m_done")
        refine ⟨rfl, rfl, ?_⟩
        rw [markF, if_pos (by assumption), if_neg (by omega)]; rfl
      · (k_extra "m_done")
        refine ⟨rfl, rfl, ?_⟩
        rw [markF, if_neg (by omega)]
end

section
open PySem PySem.W PyProof.Rows
section
variable {k : Nat} {fr : List Nat} {st : St}
/-- the state with a new object -/
noncomputable def newSt (st : St) (s z : Int) : St := ((((((((((st.setTurn (st.turn + 1)).setSort (st.n + 1) s).setPs 1).setPe 1).setTurn (st.turn + 1 + 1)).setLive (st.live ++ [st.n + 1])).setTotal (st.total + z)).setMark (st.n + 1) st.white).setSize (st.n + 1) z).setEdge (st.n + 1) []).grow
theorem upTo_snoc (n : Nat) : upTo (n + 1) = upTo n ++ [n + 1] := by
  unfold upTo; rw [List.range_succ, List.map_append]; rfl
theorem sum_congr {f g : Nat → Int} {l : List Nat} (h : ∀ i ∈ l, f i = g i) : (l.map f).sum = (l.map g).sum := by
  rw [List.map_congr_left h]
theorem whites_new (st : St) (s z : Int) (hw : st.white < 2) : whites (newSt st s z) = whites st + 1 := by
  unfold whites
  show ((upTo (st.n + 1)).filter fun i => decide ((if i = st.n + 1 then st.white else st.mark i) < 2)).length = _
  rw [upTo_snoc, List.filter_append, List.length_append]
  have e1 : ((upTo st.n).filter fun i => decide ((if i = st.n + 1 then st.white else st.mark i) < 2)) = (upTo st.n).filter fun i => decide (st.mark i < 2) := by
    refine List.filter_congr fun i hi => ?_
    have := (mem_upTo.mp hi).2
    rw [if_neg (by (first | lia | omega))]
  have e2 : ([st.n + 1].filter fun i => decide ((if i = st.n + 1 then st.white else st.mark i) < 2)) = [st.n + 1] := by
    rw [List.filter_cons_of_pos (by simpa using hw)]; rfl
  rw [e1, e2]; rfl
/-- what stays of the numbers -/
theorem new_mark {i : Nat} (s z : Int) (h : i ≠ st.n + 1) : (newSt st s z).mark i = st.mark i := if_neg h
theorem new_mark' (s z : Int) : (newSt st s z).mark (st.n + 1) = st.white := if_pos rfl
theorem new_edges {i : Nat} (s z : Int) (h : i ≠ st.n + 1) : (newSt st s z).edges i = st.edges i := if_neg h
theorem new_edges' (s z : Int) : (newSt st s z).edges (st.n + 1) = [] := if_pos rfl
theorem new_size {i : Nat} (s z : Int) (h : i ≠ st.n + 1) : (newSt st s z).size i = st.size i := if_neg h
theorem new_size' (s z : Int) : (newSt st s z).size (st.n + 1) = z := if_pos rfl
theorem new_sort {i : Nat} (s z : Int) (h : i ≠ st.n + 1) : (newSt st s z).sort i = st.sort i := if_neg h
theorem new_sort' (s z : Int) : (newSt st s z).sort (st.n + 1) = s := if_pos rfl
theorem new_live (s z : Int) : (newSt st s z).live = st.live ++ [st.n + 1] := rfl
theorem new_n (s z : Int) : (newSt st s z).n = st.n + 1 := rfl
theorem new_white (s z : Int) : (newSt st s z).white = st.white := rfl
theorem InvF.new (h : InvF k fr st) (hk : k < 12) {s z : Int} (hs : s = 0 ∨ s = 1 ∨ s = 3) (hz : 1 ≤ z) : InvF (k + 1) fr (newSt st s z) := by
  have hnk := h.nk
  have hw := h.wh
  have hwn := whites_new st s z (by (first | lia | omega))
  have hsm := h.wf.small
  have old : ∀ {i}, (newSt st s z).ok i → st.ok i ∨ i = st.n + 1 := fun {i} hi => by
    have h2 : i ≤ st.n + 1 := hi.2
    by_cases e : i = st.n + 1
    · exact .inr e
    · exact .inl ⟨hi.1, by (first | lia | omega)⟩
  have ne : ∀ {i}, st.ok i → i ≠ st.n + 1 := fun {i} hi => by have := hi.2; (first | lia | omega)
  have up : ∀ {i}, st.ok i → (newSt st s z).ok i := fun {i} hi => ⟨hi.1, by have := hi.2; show i ≤ st.n + 1; (first | lia | omega)⟩
  have lv : ∀ {i}, i ∈ (newSt st s z).live → i ∈ st.live ∨ i = st.n + 1 := fun {i} hi => by
    rw [new_live] at hi
    rcases List.mem_append.mp hi with h1 | h1
    · exact .inl h1
    · exact .inr (List.mem_singleton.mp h1)
  have lin : ∀ {i}, i ∈ st.live → i ∈ (newSt st s z).live := fun {i} hi => List.mem_append_left _ hi
  have lne : ∀ {i}, i ∈ st.live → i ≠ st.n + 1 := fun {i} hi => ne (h.lok hi)
  have fok : ∀ {i}, i ∈ fr → st.ok i := fun {i} hi => mem_upTo.mp (h.perm.mem_iff.mp (List.mem_append_right _ hi))
  have ha := h.ak
  refine ⟨⟨by rw [new_n]; (first | lia | omega), ?_, ?_, ?_, ?_⟩, by rw [new_n]; (first | lia | omega), hk, by rw [new_n]; (first | lia | omega), ?_, ?_, h.roots, lin h.one, ?_, ?_, hw, h.ph, ?_, ?_, ?_, ?_, h.gn, ?_, h.sl, h.g0, ?_, ?_, ?_⟩
  · intro i hi
    rcases old hi with h1 | rfl
    · rw [new_sort s z (ne h1)]; exact h.wf.sort i h1
    · rw [new_sort']; exact hs
  · intro i hi
    rcases old hi with h1 | rfl
    · rw [new_size s z (ne h1)]; exact h.wf.size i h1
    · rw [new_size']; exact hz
  · intro i hi c hc
    rcases old hi with h1 | rfl
    · rw [new_edges s z (ne h1)] at hc; exact up (h.wf.edge i h1 c hc)
    · rw [new_edges'] at hc; cases hc
  · intro i hi
    rcases old hi with h1 | rfl
    · rw [new_edges s z (ne h1)]; exact h.wf.elen i h1
    · rw [new_edges']; exact Nat.zero_le _
  · intro i hi
    rcases old hi with h1 | rfl
    · rw [new_edges s z (ne h1)]; have := h.ek i h1; (first | lia | omega)
    · rw [new_edges']; exact Nat.zero_le _
  · show st.again.length ≤ _; (first | lia | omega)
  · rw [new_live, new_n, upTo_snoc]
    have := h.perm
    refine List.Perm.trans ?_ (this.append_right [st.n + 1])
    rw [List.append_assoc, List.append_assoc]
    exact List.Perm.append_left _ List.perm_append_comm
  · rw [new_live, List.map_append, List.sum_append]
    show st.total + z = _
    rw [sum_congr (g := st.size) fun i hi => new_size s z (lne hi), ← h.tot]
    simp [new_size']
  · intro i hi c hc
    rcases lv hi with h1 | rfl
    · rw [new_edges s z (lne h1)] at hc; exact lin (h.clo i h1 c hc)
    · rw [new_edges'] at hc; cases hc
  · intro i hi
    rcases lv hi with h1 | rfl
    · rw [new_mark s z (lne h1)]; exact h.lm i h1
    · rw [new_mark']; (first | lia | omega)
  · intro i hi
    rw [new_mark s z (ne (fok hi))]; exact h.fm i hi
  · intro i hi
    obtain ⟨h1, h2⟩ := h.gl i hi
    exact ⟨lin h1, by rw [new_mark s z (lne h1)]; exact h2⟩
  · intro i hi
    rcases h.al i hi with h1 | h1
    · exact .inl (lin h1)
    · exact .inr ⟨h1.1, up h1.2⟩
  · intro hq i hi
    rcases lv hi with h1 | rfl
    · rw [new_mark s z (lne h1), new_white]; exact h.p03 hq i h1
    · rw [new_mark', new_white]
  · intro hq
    have r := h.p1 hq
    have hrs := r.s
    have hra := r.a
    have h1ne := lne h.one
    refine ⟨fun i hi => ?_, fun i hi h3 c hc => ?_, fun i hi h2 => ?_, ?_, ?_, ?_⟩
    · rcases lv hi with h1 | rfl
      · rw [new_mark s z (lne h1)]; exact r.w i h1
      · rw [new_mark']; show st.white ≠ 1 - st.white; (first | lia | omega)
    · rcases lv hi with h1 | rfl
      · rw [new_mark s z (lne h1)] at h3
        rw [new_edges s z (lne h1)] at hc
        rw [new_mark s z (lne (h.clo i h1 c hc))]
        exact r.b i h1 h3 c hc
      · rw [new_edges'] at hc; cases hc
    · rcases lv hi with h1 | rfl
      · rw [new_mark s z (lne h1)] at h2; exact r.g i h1 h2
      · rw [new_mark'] at h2; (first | lia | omega)
    · rw [new_mark s z h1ne]; exact r.r
    · rw [hwn, new_live, List.length_append, List.length_singleton]
      show _ + st.grey.length ≤ _; (first | lia | omega)
    · rw [hwn]; show _ + st.grey.length + st.again.length ≤ _; (first | lia | omega)
  · intro hq
    have r := h.p2 hq
    have h1ne := lne h.one
    refine ⟨fun i hi => ?_, ?_, fun i hi h3 c hc => ?_⟩
    · rcases lv hi with h1 | rfl
      · rw [new_mark s z (lne h1)]; exact r.l i h1
      · rw [new_mark']; exact .inl rfl
    · rw [new_mark s z h1ne]; exact r.r
    · rcases lv hi with h1 | rfl
      · rw [new_mark s z (lne h1)] at h3
        rw [new_edges s z (lne h1)] at hc
        rw [new_mark s z (lne (h.clo i h1 c hc))]
        exact r.c i h1 h3 c hc
      · rw [new_edges'] at hc; cases hc
/-- what the beginning makes -/
structure Ini (st : St) : Prop where
  n3 : st.n ≤ 3
  live : st.live = upTo st.n
  freed : st.freed = []
  grey : st.grey = []
  again : st.again = []
  roots : st.roots = []
  sweep : st.sweep = []
  white : st.white = 0
  phase : st.phase = 0
  total : st.total = (st.live.map st.size).sum
  mark : ∀ i, st.ok i → st.mark i = 0
  sort : ∀ i, st.ok i → st.sort i = 0 ∨ st.sort i = 1 ∨ st.sort i = 3
  size : ∀ i, st.ok i → 1 ≤ st.size i
  edge : ∀ i, st.ok i → ∀ c ∈ st.edges i, st.ok c
  elen : ∀ i, st.ok i → (st.edges i).length < st.n
theorem Ini.new (h : Ini st) (hn : st.n < 3) {s z : Int} (hs : s = 0 ∨ s = 1 ∨ s = 3) (hz : 1 ≤ z) : Ini (newSt st s z) ∧ (∀ i, st.ok i → ((newSt st s z).edges i).length + 1 < (newSt st s z).n) := by
  have old : ∀ {i}, (newSt st s z).ok i → st.ok i ∨ i = st.n + 1 := fun {i} hi => by
    have h2 : i ≤ st.n + 1 := hi.2
    by_cases e : i = st.n + 1
    · exact .inr e
    · exact .inl ⟨hi.1, by (first | lia | omega)⟩
  have ne : ∀ {i}, st.ok i → i ≠ st.n + 1 := fun {i} hi => by have := hi.2; (first | lia | omega)
  have up : ∀ {i}, st.ok i → (newSt st s z).ok i := fun {i} hi => ⟨hi.1, by have := hi.2; show i ≤ st.n + 1; (first | lia | omega)⟩
  refine ⟨⟨by rw [new_n]; (first | lia | omega), by rw [new_live, new_n, upTo_snoc, h.live], h.freed, h.grey, h.again, h.roots, h.sweep, h.white, h.phase, ?_, ?_, ?_, ?_, ?_, ?_⟩, ?_⟩
  · rw [new_live, List.map_append, List.sum_append]
    show st.total + z = _
    rw [sum_congr (g := st.size) fun i hi => new_size s z (ne (mem_upTo.mp (h.live ▸ hi))), ← h.total]
    simp [new_size']
  · intro i hi
    rcases old hi with h1 | rfl
    · rw [new_mark s z (ne h1)]; exact h.mark i h1
    · rw [new_mark']; exact h.white
  · intro i hi
    rcases old hi with h1 | rfl
    · rw [new_sort s z (ne h1)]; exact h.sort i h1
    · rw [new_sort']; exact hs
  · intro i hi
    rcases old hi with h1 | rfl
    · rw [new_size s z (ne h1)]; exact h.size i h1
    · rw [new_size']; exact hz
  · intro i hi c hc
    rcases old hi with h1 | rfl
    · rw [new_edges s z (ne h1)] at hc; exact up (h.edge i h1 c hc)
    · rw [new_edges'] at hc; cases hc
  · intro i hi
    rcases old hi with h1 | rfl
    · rw [new_edges s z (ne h1), new_n]; have := h.elen i h1; (first | lia | omega)
    · rw [new_edges', new_n]; exact Nat.succ_pos _
  · intro i hi
    rw [new_edges s z (ne hi), new_n]; have := h.elen i hi; (first | lia | omega)
theorem Ini.setTurn (h : Ini st) (t : Nat) : Ini (st.setTurn t) :=
  ⟨h.n3, h.live, h.freed, h.grey, h.again, h.roots, h.sweep, h.white, h.phase, h.total, h.mark, h.sort, h.size, h.edge, h.elen⟩
theorem Ini.append (h : Ini st) {p c : Nat} (hc : st.ok c) (hp : (st.edges p).length + 1 < st.n) : Ini (st.setEdge p (st.edges p ++ [c])) := by
  refine ⟨h.n3, h.live, h.freed, h.grey, h.again, h.roots, h.sweep, h.white, h.phase, h.total, h.mark, h.sort, h.size, ?_, ?_⟩
  · intro i hi x hx
    have hx : x ∈ (if i = p then st.edges p ++ [c] else st.edges i) := hx
    by_cases e : i = p
    · rw [if_pos e] at hx
      rcases List.mem_append.mp hx with h1 | h1
      · exact h.edge i hi x (e ▸ h1)
      · rw [List.mem_singleton.mp h1]; exact hc
    · rw [if_neg e] at hx; exact h.edge i hi x hx
  · intro i hi
    show (if i = p then st.edges p ++ [c] else st.edges i).length < st.n
    by_cases e : i = p
    · rw [if_pos e, List.length_append, List.length_singleton]; exact hp
    · rw [if_neg e]; exact h.elen i hi
noncomputable def St.setRoots (st : St) (l : List Nat) : St := { st with roots := l }
theorem Ini.inv (h : Ini st) (h1 : 1 ≤ st.n) : InvF 0 [] (st.setRoots [1]) := by
  have hn := h.n3
  have hok : ∀ {i}, i ∈ st.live → st.ok i := fun {i} hi => mem_upTo.mp (h.live ▸ hi)
  have hph := h.phase
  refine ⟨⟨by show st.n ≤ 15; (first | lia | omega), h.sort, h.size, h.edge, fun i hi => ?_⟩, h1, by (first | lia | omega), by show st.n ≤ _; (first | lia | omega), fun i hi => ?_, ?_, rfl, ?_, ?_, h.total, .inl h.white, .inl hph, fun i hi c hc => ?_, fun i hi => ?_, (fun _ h => nomatch h), ?_, ?_, ?_, ?_, fun _ => h.grey, fun _ i hi => ?_, fun hq => ?_, fun hq => ?_⟩
  · have := h.elen i hi; show (st.edges i).length ≤ 100; (first | lia | omega)
  · have := h.elen i hi; show (st.edges i).length ≤ _; (first | lia | omega)
  · show st.again.length ≤ _; rw [h.again]; exact Nat.zero_le _
  · show 1 ∈ st.live; rw [h.live]; exact mem_upTo.mpr ⟨Nat.le_refl _, h1⟩
  · show (st.live ++ []).Perm (upTo st.n); rw [h.live, List.append_nil]
  · show c ∈ st.live
    rw [h.live]; exact mem_upTo.mpr (h.edge i (hok hi) c hc)
  · show 0 ≤ st.mark i ∧ st.mark i ≤ 3
    rw [h.mark i (hok hi)]; (first | lia | omega)
  · show ∀ i ∈ st.grey, _; rw [h.grey]; exact fun _ h => nomatch h
  · show st.grey.Nodup; rw [h.grey]; exact .nil
  · show ∀ i ∈ st.again, _; rw [h.again]; exact fun _ h => nomatch h
  · show st.sweep.length ≤ 15; rw [h.sweep]; exact Nat.zero_le _
  · show st.mark i = st.white
    rw [h.mark i (hok hi), h.white]
  · have hq : st.phase = 1 := hq
    (first | lia | omega)
  · have hq : st.phase = 2 := hq
    (first | lia | omega)
end
end

section
open PySem PySem.W PySem.Calls PyProof.Rows
variable {w : World} {α : Role → Addr} {ω : Role → Obj} {ο δ : Nat → Addr} {μ : Role → Addr} {σ : Role → Obj} {st : St}
theorem prop_state (st : St) (l : List Nat) (i : Nat) : (((st.setGrey l).setMark i 3).setAgain (st.again ++ [i])).setMark i 2 = { st.setMark i 2 with grey := l, again := st.again ++ [i] } := by
  unfold St.setMark St.setAgain St.setGrey
  congr 1
  funext j
  by_cases h : j = i <;> simp [h]
noncomputable def HoldIf : Prop := True
/-- where a statement's ways meet -/
noncomputable def AtEnd (g : Heap) (L : Addr) (m : Str → Option Value) (gens : Array GenState) (drawn : Drawn) (os : OsState) (w : World) (α : Role → Addr) (ω : Role → Obj) (ο δ : Nat → Addr) (μ : Role → Addr) (X : St) (fl : Flow) (s' : Shared) : Prop :=
  ∀ C : Prop, (∀ σ' h' tk', fl = .next → s' = ⟨h', gens, drawn, tk', os⟩ → Fr g L h' m → News g L h' (ledW α ο δ μ σ' X) → Good w α ω ο δ μ σ' X → C) → C
theorem AtEnd.intro {g : Heap} {L : Addr} {m : Str → Option Value} {gens : Array GenState} {drawn : Drawn} {os : OsState} {X : St} {σ' : Role → Obj} {h' : Heap} {tk' : Tok} (F : Fr g L h' m) (N : News g L h' (ledW α ο δ μ σ' X)) (G : Good w α ω ο δ μ σ' X) :
    AtEnd g L m gens drawn os w α ω ο δ μ X .next ⟨h', gens, drawn, tk', os⟩ := fun _ c => c _ _ _ rfl rfl F N G
theorem cut_at {M : Model} {A : Around} {E : Value → Shared → Prop} {env : Env} {stmt : Stmt} {Q : Flow → Shared → Prop} {hp g : Heap} {L : Addr} {m : Str → Option Value} {gens : Array GenState} {drawn : Drawn} {os : OsState} {tk : Tok} {X Y : St}
    (_F : Fr g L hp m) (_N : News g L hp (ledW α ο δ μ σ Y)) (_G : Good w α ω ο δ μ σ Y) (h : ∀ tk, wpAny M A (exec stmt env) (AtEnd g L m gens drawn os w α ω ο δ μ X) E ⟨hp, gens, drawn, tk, os⟩)
    (c : ∀ σ' h' tk', Fr g L h' m → News g L h' (ledW α ο δ μ σ' X) → Good w α ω ο δ μ σ' X → Q .next ⟨h', gens, drawn, tk', os⟩) : wpAny M A (exec stmt env) Q E ⟨hp, gens, drawn, tk, os⟩ := by
  refine wpAny_mono (h tk) (fun fl s' hW => ?_) fun _ _ e => e
  refine hW _ ?_
  rintro σ' h' tk' rfl rfl F' N' G'
  exact c σ' h' tk' F' N' G'
section
theorem said_9 : True := by
  k_with "exec If" => ((fail_if_success k_extra "m_off1"); ((with_reducible rename HoldIf => hOn9); (refine Hold.mk ?_)))
  trivial
/-- «propagate» -/
theorem propagate_spec (Fn : Fns w α ω) {l : List Nat} {i : Nat} (G : Good w α ω ο δ μ σ st) (hw : Wf st) (hi : st.ok i) (hg : st.grey = l ++ [i]) (hz : whites st + st.grey.length ≤ 1000) (hz2 : st.again.length ≤ 1000) :
    Runs w 91 [.ref (α .marks)] 250 2500 (ledW α ο δ μ σ st) (PostW w α ω ο δ fun v μ' st' => (∃ k t, v = .int k t) ∧ μ = μ' ∧ st' = propAt st l i) := by
  have hn : whites st ≤ 15 := Nat.le_trans (whites_le st) hw.small
  have hgl : st.grey.length = l.length + 1 := by rw [hg]; simp
  have loop : ∀ (st2 : St), st2 = (if st.sort i = 3 then { st.setMark i 2 with grey := l, again := st.again ++ [i] } else { st.setMark i 3 with grey := l }) → Wf st2 ∧ st2.ok i ∧ st2.edges i = st.edges i ∧ whites st2 ≤ 15 ∧ whites st2 + st2.grey.length ≤ 1000 := by
    intro st2 h2
    have hm : ∀ (k : Int), 2 ≤ k → ∀ (a : List Nat), whites ({ st.setMark i k with grey := l, again := a } : St) ≤ whites st := fun k hk a => whites_mono rfl fun j hj => by
      unfold St.setMark at hj; dsimp only at hj; split at hj
      · omega
      · exact hj
    split at h2
    · subst h2
      have := hm 2 (by omega) (st.again ++ [i])
      refine ⟨⟨hw.small, hw.sort, hw.size, hw.edge, hw.elen⟩, hi, rfl, by omega, ?_⟩
      show _ + l.length ≤ 1000
      omega
    · subst h2
      have := hm 3 (by omega) st.again
      refine ⟨⟨hw.small, hw.sort, hw.size, hw.edge, hw.elen⟩, hi, rfl, Nat.le_trans this (by omega), ?_⟩
      show _ + l.length ≤ 1000
      have e : whites ({ st.setMark i 3 with grey := l } : St) ≤ whites st := this
      omega
  generalize e2 : (if st.sort i = 3 then ({ st.setMark i 2 with grey := l, again := st.again ++ [i] } : St) else { st.setMark i 3 with grey := l }) = st2
  obtain ⟨hw2, hi2, he2, hn2, hz2'⟩ := loop st2 e2.symm
  have hP : propAt st l i = markAll st2 (st.edges i) := by unfold propAt; rw [e2]
  rw [hP]
  clear hP loop
  (k_extra "m_enter")
  have hOn : HoldIf := trivial
  have hs0 : st.sort i = st.sort i := rfl
  k_steps
  unfold Hold
  (try k_fold)
  (with_reducible rename HoldIf => hOn9)
  (with_reducible rename Fr _ _ _ _ => F0)
  (with_reducible rename News _ _ _ _ => N0)
  rename Good w α ω ο δ μ _ ((st.setGrey l).setMark i 3) => G1
  (try dsimp only)
  refine cut_at (X := st2) F0 N0 G1 ?_ ?_
  · clear hOn9 hs0 hw2 hi2 he2 hn2 hz2'
    intro tk0
    have q2 : (st.sort i == 4) = false := by rcases hw.sort i hi with hs | hs | hs <;> rw [hs] <;> rfl
    by_cases hs : st.sort i = 3
    rotate_left
    · have q3 : (st.sort i == 3) = false := beq_false_of_ne hs
      rw [if_neg hs] at e2
      have e3 : (st.setGrey l).setMark i 3 = st2 := e2
      clear e2
      rw [← e3]
      k_steps
      exact AtEnd.intro (by k_asm) (by k_asm) G1
    · have q3 : (st.sort i == 3) = true := by rw [hs]; rfl
      rw [if_pos hs] at e2
      have e3 : (((st.setGrey l).setMark i 3).setAgain (st.again ++ [i])).setMark i 2 = st2 := (prop_state st l i).trans e2
      clear e2
      rw [← e3]
      k_steps
      (with_reducible rename Fr _ _ _ _ => F9)
      (with_reducible rename News _ _ _ _ => N9)
      clear G1
      rename Good w α ω ο δ μ _ _ => G9
      exact AtEnd.intro F9 N9 G9
  · clear F0 N0 G1 hOn9 hs0 e2
    intro σ2 h1 tk1 F1 N1 G2
    (try dsimp only)
    k_steps
    ((refine' Runs.call (Fn.ch ο δ μ _ _ i G2 hw2 hi2) ?Bq19 ?Fq19 ?Xq19 ?Nq19 ?Tq19 ?hAq19 ?hfq19 ?hkq19 ?hhq19 ?hdq19 ?huq19 ?_; (case Bq19 => k_asm); (case Fq19 => k_asm); (case Xq19 => k_asm); (case Nq19 => (k_extra "m_news")); (case Tq19 => k_asm); (case hAq19 => exact rfl); (case hfq19 => exact rfl); (case hkq19 => exact rfl); (case hhq19 => exact rfl); (case hdq19 => (k_extra "m_room")); (case huq19 => (k_extra "m_units")); k_whole; (try dsimp only)))
    intro r nw h2 tk2 F2 N2 hKp hJ0
    clear hKp
    (try dsimp only)
    (try k_fold)
    obtain ⟨a, kk, rfl, rfl, off⟩ := hJ0
    rw [he2] at N2 off
    refine iter_led (l := a) (vs := refs ο (st.edges i)) (kk := kk) (tm := [(a, W.listOf (refs ο (st.edges i)).toArray kk)]) (fun j => ((st.edges i).take j).foldl (markF 20) st2) rfl F2 N2 off G2 (fun _ _ _ => .head _) ?_ ?_
    · intro j v σ' I io h3 tk3 hv G3 F3 N3 off3
      obtain ⟨c, hc, rfl⟩ := refs_get hv
      have hck : st2.ok c := hw2.edge i hi2 c (he2 ▸ List.mem_of_getElem? hc)
      dsimp only at G3 N3 off3
      have hsm := foldF_same 20 ((st.edges i).take j) st2
      have hwh := foldF_whites 20 ((st.edges i).take j) st2
      have hsu := foldF_sum 20 ((st.edges i).take j) st2 hw2 (fun c hc => hw2.edge i hi2 c (he2 ▸ List.mem_of_mem_take hc))
      k_steps
      unfold Hold
      (try k_fold)
      ((refine' Runs.callT (mark_spec Fn 20 σ' _ c G3 (hsm.wf hw2) (hsm.ok hck) (by omega) (by omega)) ?offq20 ?Bq20 ?Fq20 ?Xq20 ?Nq20 ?Tq20 ?hAq20 ?hfq20 ?hkq20 ?hhq20 ?hdq20 ?huq20 ?_; (case offq20 => assumption); (case Bq20 => k_asm); (case Fq20 => k_asm); (case Xq20 => k_asm); (case Nq20 => (k_extra "m_news")); (case Tq20 => k_asm); (case hAq20 => exact rfl); (case hfq20 => exact rfl); (case hkq20 => exact rfl); (case hhq20 => exact rfl); (case hdq20 => (k_extra "m_room")); (case huq20 => (k_extra "m_units")); k_whole; (try dsimp only)))
      refine kE1 ?_
      intro σ4 h4 tk4 F4 N4 off4 G4
      (try dsimp only)
      (try k_fold)
      k_steps
      rw [← foldl_take (markF 20) st2 hc] at G4 N4 off4
      exact LedEnd.intro F4 N4 off4 G4
    · intro σ' u h3 tk3 G3 F3 N3 off3
      have e : (refs ο (st.edges i)).length = (st.edges i).length := by simp [refs]
      rw [e, List.take_length] at G3 N3 off3
      have hi3 := (foldF_same 20 (st.edges i) st2).ok hi2
      k_steps
      (k_extra "m_done")
      exact ⟨⟨_, _, rfl⟩, rfl, rfl⟩
end
end

section
open PySem PySem.W PySem.Calls PyProof.Rows
variable {w : World} {α : Role → Addr} {ω : Role → Obj} {ο δ : Nat → Addr} {μ : Role → Addr} {σ : Role → Obj} {st : St}
theorem said_10 : True := by
  k_with "m_off1" => (skip)
  trivial
/-- «propagate_all» -/
theorem propagate_all_spec (Fn : Fns w α ω) (G : Good w α ω ο δ μ σ st) (hw : Wg st) :
    Runs w 98 [.ref (α .marks)] 260 2600 (ledW α ο δ μ σ st) (PostW w α ω ο δ fun v μ' st' => (∃ k t, v = .int k t) ∧ μ = μ' ∧ st' = propAll st) := by
  (k_extra "m_enter")
  k_steps
  unfold Hold
  (try k_fold)
  rename Fr _ _ _ _ => F1
  rename News _ _ _ _ => N1
  refine while_W (n₀ := whites st + st.grey.length) (fun n m' nw => ∀ C : Prop, (∀ k t σ' st', m' = (fun y => if y = S "work" then some (.int k t) else if y = S "self" then some (.ref (α .marks)) else none) → nw = ledW α ο δ μ σ' st' → Good w α ω ο δ μ σ' st' → Wg st' → n = whites st' + st'.grey.length → propAll st' = propAll st → C) → C) F1 N1 ?_ ?_
  · exact fun C c => c 0 _ σ st rfl rfl G hw rfl rfl
  · intro n m₁ nw h1 tk1 F2 N2 hJ0
    (try dsimp only)
    (try k_fold)
    refine hJ0 _ ?_
    clear hJ0
    rintro k t σ' st' rfl rfl G2 hw2 rfl hp
    have hb := hw2.sum
    k_steps
    · unfold Hold
      (try k_fold)
      rename (_ : Int) < _ => ha
      cases hgl : st'.grey.getLast? with
      | none =>
        rw [List.getLast?_eq_none_iff.mp hgl] at ha
        exact absurd ha (by decide)
      | some i =>
        have hg := last_split hgl
        obtain ⟨hw3, hlt⟩ := propAt_wg hw2 hg
        ((refine' Runs.call (propagate_spec Fn G2 hw2.wf (hw2.grey i (by rw [hg]; simp)) hg (by omega) (by omega)) ?Bq21 ?Fq21 ?Xq21 ?Nq21 ?Tq21 ?hAq21 ?hfq21 ?hkq21 ?hhq21 ?hdq21 ?huq21 ?_; (case Bq21 => k_asm); (case Fq21 => k_asm); (case Xq21 => k_asm); (case Nq21 => (k_extra "m_news")); (case Tq21 => k_asm); (case hAq21 => exact rfl); (case hfq21 => exact rfl); (case hkq21 => exact rfl); (case hhq21 => exact rfl); (case hdq21 => (k_extra "m_room")); (case huq21 => (k_extra "m_units")); k_whole; (try dsimp only)))
        refine kE3 ?_
        intro kk t2 σ2 h2 tk2 F2 N2 hKp G3
        clear hKp
        (try dsimp only)
        (try k_fold)
        k_steps
        rename Fr _ _ _ _ => F3
        rw [if_ii] at F3
        exact ⟨_, _, _, _, _, rfl, F3, by k_asm, hlt, fun C c => c _ _ σ2 _ rfl rfl G3 hw3 rfl ((propAll_step hw2 hg).trans hp)⟩
    · rename ¬ ((_ : Int) < _) => ha
      have hg : st'.grey = [] := List.length_eq_zero_iff.mp (by omega)
      (k_extra "m_done")
      refine ⟨⟨_, _, rfl⟩, rfl, ?_⟩
      rw [← hp, propAll_nil hg]
/-- «forget» -/
theorem forget_spec (G : Good w α ω ο δ μ σ st) :
    Runs w 70 [.ref (α .marks)] 20 100 (ledW α ο δ μ σ st) (PostW w α ω ο δ fun v μ' st' => v = .none ∧ (∀ r, r ≠ .grey → r ≠ .again → r ≠ .weak → μ' r = μ r) ∧ st' = forget st) := by
  (k_extra "m_enter")
  k_steps
  (k_extra "m_done")
  refine ⟨rfl, ?_, rfl⟩
  intro r h1 h2 h3
  rw [upd_ne _ _ h3, upd_ne _ _ h2, upd_ne _ _ h1]
/-- «begin» -/
theorem begin_spec (Fn : Fns w α ω) (G : Good w α ω ο δ μ σ st) (hw : Wg st) :
    Runs w 77 [.ref (α .marks), .ref (α .roots)] 260 2600 (ledW α ο δ μ σ st) (PostW w α ω ο δ fun v μ' st' => v = .none ∧ (∀ r, r ≠ .grey → r ≠ .again → r ≠ .weak → μ' r = μ r) ∧ st' = begin st) := by
  (k_extra "m_enter")
  k_steps
  unfold Hold
  (try k_fold)
  ((refine' Runs.call (forget_spec G) ?Bq22 ?Fq22 ?Xq22 ?Nq22 ?Tq22 ?hAq22 ?hfq22 ?hkq22 ?hhq22 ?hdq22 ?huq22 ?_; (case Bq22 => k_asm); (case Fq22 => k_asm); (case Xq22 => k_asm); (case Nq22 => (k_extra "m_news")); (case Tq22 => k_asm); (case hAq22 => exact rfl); (case hfq22 => exact rfl); (case hkq22 => exact rfl); (case hhq22 => exact rfl); (case hdq22 => (k_extra "m_room")); (case huq22 => (k_extra "m_units")); k_whole; (try dsimp only)))
  refine kE2 ?_
  intro μ' σ2 h2 tk2 F2 N2 hKp G2 hμ
  clear hKp
  (try dsimp only)
  (try k_fold)
  have hw2 : Wg (forget st) := ⟨⟨hw.wf.small, hw.wf.sort, hw.wf.size, hw.wf.edge, hw.wf.elen⟩, (fun _ h => nomatch h), (fun _ h => nomatch h), hw.roots, by
    have := hw.sum
    show whites st + 0 + 0 ≤ 900
    omega⟩
  k_steps
  (with_reducible rename Fr _ _ _ _ => lF)
  refine For_invVF lF rfl rfl ?_
  k_steps
  obtain ⟨kk, hkk⟩ := G2.loRoots
  (with_reducible rename Fr _ _ _ _ => lF)
  refine iter_led (l := α .roots) (vs := refs ο st.roots) (kk := kk) (tm := []) (fun j => (st.roots.take j).foldl (markF 20) (forget st)) rfl lF N2 off_nil G2 ?_ ?_ ?_
  · intro j σ' G3
    have hm := mem_led (β := adr α ο δ μ') (σ := σ') (n := ((st.roots.take j).foldl (markF 20) (forget st)).n) (r := .roots) trivial
    rw [G3.isRoots, ← G2.isRoots, hkk] at hm
    exact hm
  · intro j v σ' I io h3 tk3 hv G3 F3 N3 off3
    obtain ⟨c, hc, rfl⟩ := refs_get hv
    have hck : (forget st).ok c := hw2.roots c (List.mem_of_getElem? hc)
    dsimp only at G3 N3 off3
    have hsm := foldF_same 20 (st.roots.take j) (forget st)
    have hwg := foldF_wg 20 (st.roots.take j) hw2 (fun c hc => hw2.roots c (List.mem_of_mem_take hc))
    have hn := hwg.wf.small
    have hn2 := whites_le ((st.roots.take j).foldl (markF 20) (forget st))
    have hsu := hwg.sum
    k_steps
    unfold Hold
    (try k_fold)
    ((refine' Runs.callT (mark_spec Fn 20 σ' _ c G3 hwg.wf (hsm.ok hck) (by omega) (by omega)) ?offq23 ?Bq23 ?Fq23 ?Xq23 ?Nq23 ?Tq23 ?hAq23 ?hfq23 ?hkq23 ?hhq23 ?hdq23 ?huq23 ?_; (case offq23 => assumption); (case Bq23 => k_asm); (case Fq23 => k_asm); (case Xq23 => k_asm); (case Nq23 => (k_extra "m_news")); (case Tq23 => k_asm); (case hAq23 => exact rfl); (case hfq23 => exact rfl); (case hkq23 => exact rfl); (case hhq23 => exact rfl); (case hdq23 => (k_extra "m_room")); (case huq23 => (k_extra "m_units")); k_whole; (try dsimp only)))
    refine kE1 ?_
    intro σ4 h4 tk4 F4 N4 off4 G4
    (try dsimp only)
    (try k_fold)
    k_steps
    rw [← foldl_take (markF 20) (forget st) hc] at G4 N4 off4
    exact LedEnd.intro F4 N4 off4 G4
  · intro σ' u h3 tk3 G3 F3 N3 off3
    have e : (refs ο st.roots).length = st.roots.length := by simp [refs]
    rw [e, List.take_length] at G3 N3 off3
    k_steps
    (k_extra "m_done")
    exact ⟨rfl, hμ, rfl⟩
end

section
open PySem PySem.W PySem.Calls PyProof.Rows
variable {w : World} {α : Role → Addr} {ω : Role → Obj} {ο δ : Nat → Addr} {μ : Role → Addr} {σ : Role → Obj} {st : St}
section
theorem said_11 : True := by
  k_with "setAttr ref" => ((fail_if_success k_extra "m_off2"); (refine Hold.mk ?_))
  trivial
/-- «finish» -/
theorem finish_spec (Fn : Fns w α ω) (G : Good w α ω ο δ μ σ st) (hw : Wg st) :
    Runs w 105 [.ref (α .marks), .ref (α .roots)] 275 2750 (ledW α ο δ μ σ st) (PostW w α ω ο δ fun v μ' st' => v = .none ∧ (∀ r, r ≠ .grey → r ≠ .again → r ≠ .weak → μ' r = μ r) ∧ st' = finish st) := by
  (k_extra "m_enter")
  k_steps
  unfold Hold
  (try k_fold)
  ((refine' Runs.call (propagate_all_spec Fn G hw) ?Bq24 ?Fq24 ?Xq24 ?Nq24 ?Tq24 ?hAq24 ?hfq24 ?hkq24 ?hhq24 ?hdq24 ?huq24 ?_; (case Bq24 => k_asm); (case Fq24 => k_asm); (case Xq24 => k_asm); (case Nq24 => (k_extra "m_news")); (case Tq24 => k_asm); (case hAq24 => exact rfl); (case hfq24 => exact rfl); (case hkq24 => exact rfl); (case hhq24 => exact rfl); (case hdq24 => (k_extra "m_room")); (case huq24 => (k_extra "m_units")); k_whole; (try dsimp only)))
  refine kE3 ?_
  intro k t σ2 h2 tk2 F2 N2 hKp G2
  clear hKp
  (try dsimp only)
  (try k_fold)
  obtain ⟨hw2, hg2⟩ := propAll_wg hw
  k_steps
  unfold Hold
  (try k_fold)
  rename News _ _ _ _ => N3
  rename ∀ p ∈ ledW α ο δ μ σ2 (propAll st), _ => hlt
  refine set_swap1 (by k_asm) (by k_asm) (News.sub N3 fun p hp => List.Mem.tail _ hp) hlt G2 (by k_is) (by k_is) (by k_is) (by k_is) ?_
  intro h3 o1 τ1 F3 N4 hd1
  k_steps
  unfold Hold
  (try k_fold)
  (with_reducible rename Fr _ _ _ _ => F4)
  refine set_swap2 (r2 := .weak) (st' := (propAll st).setGrey []) (μ' := upd (upd μ .grey (μ .weak)) .weak _) G2 F4 (by k_asm) N4 hlt hd1 rfl trivial (by rw [adr_weak, adr_grey]; try rfl) (by decide) (by decide) G2.loWeak ⟨_, rfl⟩ rfl (Nat.le_of_ble_eq_true rfl)
    (fun x o h1 h2 h3 hS => by cases x <;> first | exact hS | exact absurd rfl h1 | exact absurd rfl h2 | exact absurd rfl h3) (by k_is) (by k_is) (by k_is) (by k_is) ?_
  intro h4 σ3 F5 N5 G3
  have hw3 : Wg ((propAll st).setGrey []) := ⟨⟨hw2.wf.small, hw2.wf.sort, hw2.wf.size, hw2.wf.edge, hw2.wf.elen⟩, (fun _ h => nomatch h), hw2.again, hw2.roots, by
    have := hw2.sum
    show whites (propAll st) + 0 + (propAll st).again.length ≤ 900
    omega⟩
  generalize e3 : (propAll st).setGrey [] = st3 at *
  have hro : st3.roots = (propAll st).roots := by rw [← e3]; rfl
  k_steps
  (with_reducible rename Fr _ _ _ _ => lF)
  refine For_invVF lF rfl rfl ?_
  k_steps
  obtain ⟨kk, hkk⟩ := G3.loRoots
  (with_reducible rename Fr _ _ _ _ => lF)
  rename News _ _ _ _ => N5
  refine iter_led (l := α .roots) (vs := refs ο st3.roots) (kk := kk) (tm := []) (fun j => (st3.roots.take j).foldl (markF 20) st3) rfl lF N5 off_nil G3 ?_ ?_ ?_
  · intro j σ' G3'
    exact G3'.rootsMem (by rw [← G3.isRoots, hkk])
  · intro j v σ' I io h3 tk3 hv G3 F3 N3 off3
    obtain ⟨c, hc, rfl⟩ := refs_get hv
    have hck : st3.ok c := hw3.roots c (List.mem_of_getElem? hc)
    dsimp only at G3 N3 off3
    have hsm := foldF_same 20 (st3.roots.take j) st3
    have hwg := foldF_wg 20 (st3.roots.take j) hw3 (fun c hc => hw3.roots c (List.mem_of_mem_take hc))
    have hn := hwg.wf.small
    have hn2 := whites_le ((st3.roots.take j).foldl (markF 20) st3)
    have hsu := hwg.sum
    k_steps
    unfold Hold
    (try k_fold)
    ((refine' Runs.callT (mark_spec Fn 20 σ' _ c G3 hwg.wf (hsm.ok hck) (by omega) (by omega)) ?offq25 ?Bq25 ?Fq25 ?Xq25 ?Nq25 ?Tq25 ?hAq25 ?hfq25 ?hkq25 ?hhq25 ?hdq25 ?huq25 ?_; (case offq25 => assumption); (case Bq25 => k_asm); (case Fq25 => k_asm); (case Xq25 => k_asm); (case Nq25 => (k_extra "m_news")); (case Tq25 => k_asm); (case hAq25 => exact rfl); (case hfq25 => exact rfl); (case hkq25 => exact rfl); (case hhq25 => exact rfl); (case hdq25 => (k_extra "m_room")); (case huq25 => (k_extra "m_units")); k_whole; (try dsimp only)))
    refine kE1 ?_
    intro σ4 h4 tk4 F4 N4 off4 G4
    (try dsimp only)
    (try k_fold)
    k_steps
    rw [← foldl_take (markF 20) st3 hc] at G4 N4 off4
    exact LedEnd.intro F4 N4 off4 G4
  · intro σ5 u h5 tk5 G5 F5 N5 off5
    have e : (refs ο st3.roots).length = st3.roots.length := by simp [refs]
    rw [e, List.take_length] at G5 N5 off5
    have hw5 := foldF_wg 20 st3.roots hw3 (fun c hc => hw3.roots c hc)
    generalize e5 : st3.roots.foldl (markF 20) st3 = st5 at *
    simp only [List.nil_append] at N5
    k_steps
    unfold Hold
    (try k_fold)
    ((refine' Runs.call (propagate_all_spec Fn G5 hw5) ?Bq26 ?Fq26 ?Xq26 ?Nq26 ?Tq26 ?hAq26 ?hfq26 ?hkq26 ?hhq26 ?hdq26 ?huq26 ?_; (case Bq26 => k_asm); (case Fq26 => k_asm); (case Xq26 => k_asm); (case Nq26 => (k_extra "m_news")); (case Tq26 => k_asm); (case hAq26 => exact rfl); (case hfq26 => exact rfl); (case hkq26 => exact rfl); (case hhq26 => exact rfl); (case hdq26 => (k_extra "m_room")); (case huq26 => (k_extra "m_units")); k_whole; (try dsimp only)))
    refine kE3 ?_
    intro k t σ6 h2 tk2 F2 N2 hKp G6
    clear hKp
    (try dsimp only)
    (try k_fold)
    obtain ⟨hw6, hg6⟩ := propAll_wg hw5
    k_steps
    unfold Hold
    (try k_fold)
    rename News _ _ _ _ => N7
    rename ∀ p ∈ ledW α ο δ _ σ6 (propAll st5), _ => hlt7
    refine set_swap1 (by k_asm) (by k_asm) (News.sub N7 fun p hp => List.Mem.tail _ hp) hlt7 G6 (by k_is) (by k_is) (by k_is) (by k_is) ?_
    intro h7 o7 τ7 F7 N8 hd7
    k_steps
    unfold Hold
    (try k_fold)
    (with_reducible rename Fr _ _ _ _ => F8)
    refine set_swap2 (r2 := .again) (st' := ((propAll st5).setGrey (propAll st5).again).setAgain []) (μ' := upd (upd _ .grey _) .again _) G6 F8 (by k_asm) N8 hlt7 hd7 rfl trivial (by rw [adr_again, adr_grey]; try rfl) (by decide) (by decide) G6.loAgain ⟨_, rfl⟩ rfl (Nat.le_of_ble_eq_true rfl)
      (fun x o h1 h2 h3 hS => by cases x <;> first | exact hS | exact absurd rfl h1 | exact absurd rfl h2 | exact absurd rfl h3) (by k_is) (by k_is) (by k_is) (by k_is) ?_
    intro h9 σ9 F9 N9 G9
    have hw9 : Wg (((propAll st5).setGrey (propAll st5).again).setAgain []) := ⟨⟨hw6.wf.small, hw6.wf.sort, hw6.wf.size, hw6.wf.edge, hw6.wf.elen⟩, hw6.again, (fun _ h => nomatch h), hw6.roots, by
      have := hw6.sum
      rw [hg6] at this
      show whites (propAll st5) + (propAll st5).again.length + 0 ≤ 900
      simp at this; omega⟩
    k_steps
    unfold Hold
    (try k_fold)
    ((refine' Runs.call (propagate_all_spec Fn G9 hw9) ?Bq27 ?Fq27 ?Xq27 ?Nq27 ?Tq27 ?hAq27 ?hfq27 ?hkq27 ?hhq27 ?hdq27 ?huq27 ?_; (case Bq27 => k_asm); (case Fq27 => k_asm); (case Xq27 => k_asm); (case Nq27 => (k_extra "m_news")); (case Tq27 => k_asm); (case hAq27 => exact rfl); (case hfq27 => exact rfl); (case hkq27 => exact rfl); (case hhq27 => exact rfl); (case hdq27 => (k_extra "m_room")); (case huq27 => (k_extra "m_units")); k_whole; (try dsimp only)))
    refine kE3 ?_
    intro k t σ10 h2 tk2 F2 N2 hKp G10
    clear hKp
    (try dsimp only)
    (try k_fold)
    k_steps
    (k_extra "m_done")
    refine ⟨rfl, ?_, ?_⟩
    · intro r h1 h2 h3
      rw [upd_ne _ _ h2, upd_ne _ _ h1, upd_ne _ _ h3, upd_ne _ _ h1]
    · unfold finish markAll
      dsimp only
      rw [show ({ propAll st with grey := [] } : St) = st3 from e3, ← hro, e5]
      rfl
end
end

section
open PySem PySem.W PySem.Calls PyProof.Rows
variable {w : World} {α : Role → Addr} {ω : Role → Obj} {ο δ : Nat → Addr} {μ : Role → Addr} {σ : Role → Obj} {st : St}
theorem said_12 : True := by
  k_with "m_off2" => (skip)
  k_with "call ref" => (((with_reducible refine' Runs.call (is_dead_spec ?zqG ?zqok) ?zqB ?zqF ?zqX ?zqN ?zqT ?zqr1 ?zqr2 ?zqr3 ?zqr4 ?zqro ?zqun ?_); (k_extra "m_rd")))
  trivial
/-- «barrier» -/
theorem barrier_spec (Fn : Fns w α ω) {pa c : Nat} {b : Bool} (G : Good w α ω ο δ μ σ st) (hw : Wg st) (hp : st.ok pa) (hc : st.ok c) :
    Runs w 119 [.ref (α .marks), .ref (ο pa), .ref (ο c), .bool b] 300 3000 (ledW α ο δ μ σ st) (PostW w α ω ο δ fun v μ' st' => v = .none ∧ μ = μ' ∧ st' = barrier st pa c b) := by
  have hn := hw.wf.small
  have hn2 := whites_le st
  have hsu := hw.sum
  (k_extra "m_enter")
  k_steps
  · (k_extra "m_done")
    exact ⟨rfl, rfl, by unfold barrier; rw [if_pos (.inl (by assumption))]⟩
  · (k_extra "m_done")
    exact ⟨rfl, rfl, by unfold barrier; rw [if_pos (.inr (.inr (by assumption)))]⟩
  · have e : barrier st pa c true = markF 20 st c := by unfold barrier; rw [if_neg (by simp_all), if_pos rfl]
    unfold Hold
    (try k_fold)
    ((refine' Runs.call (mark_spec Fn 20 σ _ c G hw.wf hc (by omega) (by omega)) ?Bq28 ?Fq28 ?Xq28 ?Nq28 ?Tq28 ?hAq28 ?hfq28 ?hkq28 ?hhq28 ?hdq28 ?huq28 ?_; (case Bq28 => k_asm); (case Fq28 => k_asm); (case Xq28 => k_asm); (case Nq28 => (k_extra "m_news")); (case Tq28 => k_asm); (case hAq28 => exact rfl); (case hfq28 => exact rfl); (case hkq28 => exact rfl); (case hhq28 => exact rfl); (case hdq28 => (k_extra "m_room")); (case huq28 => (k_extra "m_units")); k_whole; (try dsimp only)))
    refine kE1 ?_
    intro σ2 h2 tk2 F2 N2 hKp G2
    clear hKp
    (try dsimp only)
    (try k_fold)
    k_steps
    (k_extra "m_done")
    refine ⟨rfl, rfl, ?_⟩
    rw [show b = true from by assumption, e]
  · have e : barrier st pa c false = st.setMark pa st.white := by unfold barrier; rw [if_neg (by simp_all)]; rfl
    unfold Hold
    (try k_fold)
    ((refine' Runs.call (make_white_spec G hp) ?Bq29 ?Fq29 ?Xq29 ?Nq29 ?Tq29 ?hAq29 ?hfq29 ?hkq29 ?hhq29 ?hdq29 ?huq29 ?_; (case Bq29 => k_asm); (case Fq29 => k_asm); (case Xq29 => k_asm); (case Nq29 => (k_extra "m_news")); (case Tq29 => k_asm); (case hAq29 => exact rfl); (case hfq29 => exact rfl); (case hkq29 => exact rfl); (case hhq29 => exact rfl); (case hdq29 => (k_extra "m_room")); (case huq29 => (k_extra "m_units")); k_whole; (try dsimp only)))
    refine kE1 ?_
    intro σ2 h2 tk2 F2 N2 hKp G2
    clear hKp
    (try dsimp only)
    (try k_fold)
    k_steps
    (k_extra "m_done")
    refine ⟨rfl, rfl, ?_⟩
    rw [show b = false from by assumption, e]
  · (k_extra "m_done")
    exact ⟨rfl, rfl, by unfold barrier; rw [if_pos (.inr (.inl (by assumption)))]⟩
/-- «barrier_back» -/
theorem barrier_back_spec {i : Nat} (G : Good w α ω ο δ μ σ st) (hw : Wg st) (hi : st.ok i) :
    Runs w 126 [.ref (α .marks), .ref (ο i)] 30 300 (ledW α ο δ μ σ st) (PostW w α ω ο δ fun v μ' st' => v = .none ∧ μ = μ' ∧ st' = barrierBack st i) := by
  have hsu := hw.sum
  (k_extra "m_enter")
  k_steps
  · (k_extra "m_done")
    exact ⟨rfl, rfl, by unfold barrierBack; rw [if_pos (by assumption)]; rfl⟩
  · (k_extra "m_done")
    exact ⟨rfl, rfl, by unfold barrierBack; rw [if_neg (by assumption)]⟩
end

section
open PySem PySem.W PySem.Calls PyProof.Rows
theorem Nums.len {vs : List Value} {ns : List Nat} (h : Nums vs ns) : vs.length = ns.length := by
  induction h with
  | nil => rfl
  | cons i t _ ih => simp [ih]
theorem Nums.app {vs us : List Value} {ns ms : List Nat} (h : Nums vs ns) (h' : Nums us ms) : Nums (vs ++ us) (ns ++ ms) := by
  induction h with
  | nil => exact h'
  | cons i t _ ih => exact .cons i t ih
theorem Nums.snoc : ∀ {l : List Nat} {vs : List Value} {i : Nat}, Nums vs (l ++ [i]) → ∃ vs' t, vs = vs' ++ [Value.int (i : Int) t] ∧ Nums vs' l
  | [], _, _, h => by cases h with | cons _ t h' => cases h'; exact ⟨[], t, rfl, .nil⟩
  | a :: l, _, _, h => by
    cases h with
    | cons _ t r =>
      obtain ⟨vs', t', e, h⟩ := Nums.snoc r
      exact ⟨_ :: vs', t', by rw [e]; rfl, .cons a t h⟩
theorem Nums.ints {vs : List Value} {ns : List Nat} (h : Nums vs ns) : IntsAre vs (ns.map fun (i : Nat) => (i : Int)) := by
  induction h with
  | nil => exact .nil
  | cons i t _ ih => exact .cons _ t ih
theorem Nums.ofInts : ∀ {ns : List Nat} {vs : List Value}, IntsAre vs (ns.map fun (i : Nat) => (i : Int)) → Nums vs ns
  | [], _, h => by cases h; exact .nil
  | i :: ns, _, h => by cases h with | cons _ t r => exact .cons i t (Nums.ofInts r)
theorem Nums.get {vs : List Value} {ns : List Nat} (h : Nums vs ns) {j : Nat} {v : Value} (e : vs[j]? = some v) : ∃ i t, ns[j]? = some i ∧ v = .int (i : Int) t := by
  induction h generalizing j with
  | nil => cases e
  | cons i t _ ih =>
    cases j with
    | zero => exact ⟨i, t, rfl, (Option.some.inj e).symm⟩
    | succ j => exact ih e
theorem Nums.tail {vs : List Value} {ns : List Nat} (h : Nums vs ns) : Nums vs.tail ns.tail := by
  cases h with
  | nil => exact .nil
  | cons _ _ r => exact r
theorem nums_keys {prog : Program} {w : World} {f : Nat → Addr} : ∀ {l : List Nat} {vs : List Value}, vs.length = (numKV f l).length → (∀ (j : Nat) (v : Value), vs[j]? = some v → ∃ k x, (numKV f l)[j]? = some (k, x) ∧ (intKind prog w).is k v = true) → Nums vs l
 := by
  intro l
  induction l with
  | nil => intro vs h k; cases List.length_eq_zero_iff.mp h; exact .nil
  | cons i l ih =>
    intro vs h k
    cases vs with
    | nil => exact absurd h (Nat.ne_of_lt (Nat.zero_lt_succ _))
    | cons v vs =>
    obtain ⟨kk, x, e, hk⟩ := k 0 v rfl
    have e1 : kk = (i : Int) := by
      have : (numKV f (i :: l))[0]? = some ((i : Int), Value.ref (f i)) := rfl
      rw [this] at e; exact (Prod.mk.inj (Option.some.inj e)).1.symm
    obtain ⟨t, rfl⟩ := Value.isInt_shape hk
    subst e1
    exact .cons i t (ih (Nat.succ.inj h) fun j u hu => k (j + 1) u hu)
theorem numKV_without (f : Nat → Addr) (l : List Nat) (i : Nat) : without (numKV f l) (i : Int) = numKV f (l.filter fun x => decide (x ≠ i)) := by
  unfold without numKV
  rw [List.filter_map]
  congr 1
  refine List.filter_congr fun x _ => ?_
  simp only [Function.comp]
  by_cases h : x = i
  · subst h; simp
  · have : ¬ ((x : Int) = (i : Int)) := by (first | lia | omega)
    simp [h, this]
theorem numKV_stored_new (f : Nat → Addr) (l : List Nat) (i : Nat) (h : i ∉ l) : stored (numKV f l) (i : Int) (.ref (f i)) = numKV f (l ++ [i]) := by
  unfold stored
  rw [if_neg]
  · simp [numKV]
  · rw [List.any_eq_true]
    rintro ⟨kv, hkv, he⟩
    obtain ⟨j, hj, rfl⟩ := List.mem_map.mp hkv
    have := of_decide_eq_true he
    dsimp only at this
    exact h (by rw [show i = j by (first | lia | omega)]; exact hj)
theorem numKV_len (f : Nat → Addr) (l : List Nat) : (numKV f l).length = l.length := by simp [numKV]
theorem upTo_succ (n : Nat) : upTo (n + 1) = upTo n ++ [n + 1] := by unfold upTo; rw [List.range_succ, List.map_append]; rfl
theorem upTo_len (n : Nat) : (upTo n).length = n := by simp [upTo]
section
variable {w : World} {A : Around} {E : Value → Shared → Prop} {s : Shared} {L : Addr} {h₀ h : Heap} {m : Str → Option Value} {news tmp : List (Addr × Obj)} {name : Str}
  {α : Role → Addr} {ω : Role → Obj} {ο δ : Nat → Addr} {μ : Role → Addr} {σ : Role → Obj} {st : St} {K : Frag}
theorem Good.sweepL (G : Good w α ω ο δ μ σ st) : ∃ vs, IsLO (σ .sweep) vs ∧ Nums vs st.sweep := G.sh .sweep trivial
theorem pop_sweep {i : Nat} {l : List Nat} {Q : Value → Shared → Prop} (F : Fr h₀ L s.heap m) (N : News h₀ L s.heap (tmp ++ ledW α ο δ μ σ st)) (off : Off tmp (ledW α ο δ μ σ st)) (G : Good w α ω ο δ μ σ st) (hg : st.sweep = l ++ [i]) (hz : st.sweep.length ≤ 10000)
    (h : ∀ h' σ' t, Fr h₀ L h' m → News h₀ L h' (tmp ++ ledW α ο δ μ σ' (st.setSweep l)) → Off tmp (ledW α ο δ μ σ' (st.setSweep l)) → Good w α ω ο δ μ σ' (st.setSweep l) → Q (.int (i : Int) t) { s with heap := h' }) :
    wpAny (model PP w) A (call (.builtin "list.pop") [.ref (μ .sweep)]) Q E s := by
  obtain ⟨vs, hL, hN⟩ := G.sweepL
  rw [hg] at hN hz
  obtain ⟨vs', t, rfl, hN'⟩ := hN.snoc
  have hle := hN'.len
  rw [List.length_append, List.length_singleton] at hz
  refine pop_listW .sweep (vs := vs') (x := .int (i : Int) t) F N off G trivial hL (by (first | lia | omega)) fun h' o' F' N' hL' => h h' _ t F' N' off.upd (G.set rfl ?_ ?_)
  · exact ⟨vs', hL', hN'⟩
  · intro r' o hne hS; cases r' <;> first | exact hS | exact absurd rfl hne
theorem len_sweep {Q : Value → Shared → Prop} (G : Good w α ω ο δ μ σ st) (N : News h₀ L s.heap news) (hs : ∀ p ∈ ledW α ο δ μ σ st, p ∈ news) (hz : st.sweep.length ≤ 10000)
    (h : Q (.int st.sweep.length (s.toks + 1)) { s with toks := s.toks + 1 + 1 }) : wpAny (model PP w) A (call (.builtin "len") [.ref (μ .sweep)]) Q E s := by
  obtain ⟨vs, hL, hN⟩ := G.sweepL
  refine len_listW .sweep G N hs trivial hL (by rw [hN.len]; exact hz) ?_
  rw [hN.len]; exact h
theorem meth_objs {id : String} {pl : Sem Bool} {Q : Value × List Value → Shared → Prop} (G : Good w α ω ο δ μ σ st) (N : News h₀ L s.heap news) (hs : ∀ p ∈ ledW α ο δ μ σ st, p ∈ news) (slot : Slot "dict" name id) (ty : typeOf (.builtin id) = pure (.type "method_descriptor"))
    (h : Q (.builtin id, [.ref (α .objs)]) s) : wpAny (model PP w) A (getMethod (.ref (α .objs)) name pl) Q E s :=
  kob_method (knd := iK w) slot ty N (hs _ (mem_led (β := adr α ο δ μ) (r := .objs) trivial)) (G.sh .objs trivial) h
theorem get_objs_in {i : Nat} {t : Tok} {Q : Value → Shared → Prop} (G : Good w α ω ο δ μ σ st) (N : News h₀ L s.heap news) (hs : ∀ p ∈ ledW α ο δ μ σ st, p ∈ news) (hi : i ∈ st.live) (h : Q (.ref (ο i)) { s with toks := s.toks + 1 }) :
    wpAny (model PP w) A (call (.builtin "dict.get") [.ref (α .objs), .int (i : Int) t]) Q E s :=
  kdg_get1 (knd := iK w) N (hs _ (mem_led (β := adr α ο δ μ) (r := .objs) trivial)) (G.sh .objs trivial) (G.low (r := .objs) trivial) (intKind_is _ _ _ _) (some (.ref (ο i))) (numKV_find ο st.live i hi) h
theorem get_objs_out {i : Nat} {t : Tok} {Q : Value → Shared → Prop} (G : Good w α ω ο δ μ σ st) (N : News h₀ L s.heap news) (hs : ∀ p ∈ ledW α ο δ μ σ st, p ∈ news) (hi : i ∉ st.live) (h : Q .none { s with toks := s.toks + 1 }) :
    wpAny (model PP w) A (call (.builtin "dict.get") [.ref (α .objs), .int (i : Int) t]) Q E s :=
  kdg_get1 (knd := iK w) N (hs _ (mem_led (β := adr α ο δ μ) (r := .objs) trivial)) (G.sh .objs trivial) (G.low (r := .objs) trivial) (intKind_is _ _ _ _) none (numKV_none ο st.live i hi) h
theorem pop_objs {i : Nat} {t : Tok} {x : Value} {Q : Value → Shared → Prop} (F : Fr h₀ L s.heap m) (N : News h₀ L s.heap (tmp ++ ledW α ο δ μ σ st)) (off : Off tmp (ledW α ο δ μ σ st)) (G : Good w α ω ο δ μ σ st) (hi : i ∈ st.live) (hz : st.live.length ≤ 10000)
    (h : ∀ h' σ', Fr h₀ L h' m → News h₀ L h' (tmp ++ ledW α ο δ μ σ' (st.setLive (st.live.filter fun x => decide (x ≠ i)))) → Off tmp (ledW α ο δ μ σ' (st.setLive (st.live.filter fun x => decide (x ≠ i)))) → Good w α ω ο δ μ σ' (st.setLive (st.live.filter fun x => decide (x ≠ i))) → Q (.ref (ο i)) { s with heap := h', toks := s.toks + 1 }) :
    wpAny (model PP w) A (call (.builtin "dict.pop") [.ref (α .objs), .int (i : Int) t, x]) Q E s := by
  refine kob_pop (knd := iK w) (more := [x]) F N (updF_tmp (off.ne (r := .objs) trivial) (led_updF G.inj (r := .objs) trivial)) (G.sh .objs trivial) (intKind_is _ _ _ _) (.inr ⟨_, rfl⟩) rfl (PySem.F.args_dict_pop_3 _ _ _) (numKV_find ο st.live i hi)
    (by rw [numKV_len, sizeLine_eq]; (first | lia | omega)) fun h' o' F' N' hd' => h h' _ F' N' off.upd (G.set rfl ?_ ?_)
  · rw [numKV_without] at hd'; exact hd'
  · intro r' o hne hS; cases r' <;> first | exact hS | exact absurd rfl hne
theorem list_objs {Q : Value → Shared → Prop} (hh : A.handled = none) (F : Fr h₀ L s.heap m) (N : News h₀ L s.heap news) (hs : ∀ p ∈ ledW α ο δ μ σ st, p ∈ news) (G : Good w α ω ο δ μ σ st) (hz : st.live.length ≤ 10000)
    (h : ∀ D c h' tk vs, Fr h₀ L h' m → News h₀ L h' ((D, PySem.W.listOf vs.toArray c) :: news) → (∀ q ∈ news, q.1 < D) → Nums vs st.live → Q (.ref D) { s with heap := h', toks := tk }) :
    wpAny (model PP w) A (call (.type "list") [.ref (α .objs)]) Q E s := by
  have hD := kda_dict (knd := iK w) N (hs _ (mem_led (β := adr α ο δ μ) (r := .objs) trivial)) (G.sh .objs trivial)
  obtain ⟨ep, hat⟩ := hD.dictAt
  exact kdl_N (kdl_dict (knd := iK w) (G.low (r := .objs) trivial)) hh F N hat (by rw [numKV_len, sizeLine_eq]; (first | lia | omega)) fun D c h' tk vs F' N' l1 hl hv => h D c h' tk vs F' N' l1 (nums_keys hl hv)
/-- «self.to_sweep = list(self.objects)» -/
theorem set_sweep {l : Addr} {k : Nat} {vs : List Value} {ns : List Nat} {Q : Unit → Shared → Prop} (F : Fr h₀ L s.heap m) (X₀ : K.In h₀) (N : News h₀ L s.heap ((l, PySem.W.listOf vs.toArray k) :: ledW α ο δ μ σ st)) (hlt : ∀ p ∈ ledW α ο δ μ σ st, p.1 < l) (G : Good w α ω ο δ μ σ st) (hN : Nums vs ns)
    (hs : findIn K (.ref 346) "__setattr__" = some (some (.builtin "object.__setattr__"))) (hp : plainOver K 346 = true) (ht : takerIn K 346 "to_sweep" = some none) (hh : hasDictIn K 346 = true)
    (h : ∀ h' σ', Fr h₀ L h' m → News h₀ L h' (ledW α ο δ (upd μ .sweep l) σ' (st.setSweep ns)) → Good w α ω ο δ (upd μ .sweep l) σ' (st.setSweep ns) → Q () { s with heap := h', toks := s.toks + 2 }) :
    wpAny (model PP w) A (setAttr (.ref (α .cyc)) "to_sweep" (.ref l)) Q E s := by
  obtain ⟨τ, hd⟩ := G.sh .cycD trivial
  have hlt' : ∀ x, Role.ok st.n x → adr α ο δ μ x < l := fun x hx => hlt _ (mem_led hx)
  refine set_cycD (tmp := [(l, PySem.W.listOf vs.toArray k)]) F X₀ N (off_new hlt) G hd hs hp ht hh fun h' o' F' N' hd' => ?_
  refine h h' (upd (upd σ .cycD o') .sweep (PySem.W.listOf vs.toArray k)) F' (News.sub N' ?_) (G.move rfl (adr_sweep l) hlt' (by decide) ⟨vs, ⟨k, rfl⟩, hN⟩ ⟨τ, hd'⟩ (fun x o h1 h2 hS => by cases x <;> first | exact hS | exact absurd rfl h1 | exact absurd rfl h2))
  show ∀ p ∈ led (adr α ο δ (upd μ .sweep l)) _ st.n, _
  rw [adr_sweep]; exact led_move
theorem bound_marks {expr : Bool} {f : Addr} {Q : Value → Shared → Prop} (F : Fr h₀ L s.heap m) (X₀ : K.In h₀) (N : News h₀ L s.heap news) (hs : ∀ p ∈ ledW α ο δ μ σ st, p ∈ news) (G : Good w α ω ο δ μ σ st)
    (hg : plainGet K 136 name = true) (hh : hasDictIn K 136 = true) (ha : findIn K (.ref 136) name = some (some (.ref f))) (hf : isFn K (.ref f) = true)
    (hgf : specialIn K (.ref f) "__get__" = some (some (.builtin "function.__get__"))) (ht : takesIn K (.ref f) = some false) (hc : copiedNames.contains name = false) (hl : ∀ τ, valueAt (marksKV α μ st τ) name = none)
    (h : ∀ q h', Fr h₀ L h' m → News h₀ L h' ((q, methodObj (.ref f) (.ref (α .marks))) :: news) → (∀ p ∈ news, p.1 < q) → Q (.ref q) { s with heap := h', toks := s.toks + 1 }) : wpAny (model PP w) A (getAttr (.ref (α .marks)) name expr) Q E s := by
  obtain ⟨τ, hd⟩ := G.sh .marksD trivial
  obtain ⟨es, n, e, _, _, _, hget⟩ := dict_open hd
  have h1 : (α .marks, instObj 136 (α .marksD)) ∈ news := by
    have := hs _ (mem_led (β := adr α ο δ μ) (σ := σ) (n := st.n) (r := .marks) trivial)
    rwa [show σ .marks = _ from G.sh .marks trivial] at this
  have h2 := hs _ (mem_led (β := adr α ο δ μ) (σ := σ) (n := st.n) (r := .marksD) trivial)
  rw [e] at h2
  exact kbm_bound F X₀ N (InstAt.of_news N h1 h2) hg hh ha hf hgf ht hc (by rw [hget, hl]) h
theorem bound_cyc {expr : Bool} {f : Addr} {Q : Value → Shared → Prop} (F : Fr h₀ L s.heap m) (X₀ : K.In h₀) (N : News h₀ L s.heap news) (hs : ∀ p ∈ ledW α ο δ μ σ st, p ∈ news) (G : Good w α ω ο δ μ σ st)
    (hg : plainGet K 346 name = true) (hh : hasDictIn K 346 = true) (ha : findIn K (.ref 346) name = some (some (.ref f))) (hf : isFn K (.ref f) = true)
    (hgf : specialIn K (.ref f) "__get__" = some (some (.builtin "function.__get__"))) (ht : takesIn K (.ref f) = some false) (hc : copiedNames.contains name = false) (hl : ∀ τ, valueAt (cycKV α μ st τ) name = none)
    (h : ∀ q h', Fr h₀ L h' m → News h₀ L h' ((q, methodObj (.ref f) (.ref (α .cyc))) :: news) → (∀ p ∈ news, p.1 < q) → Q (.ref q) { s with heap := h', toks := s.toks + 1 }) : wpAny (model PP w) A (getAttr (.ref (α .cyc)) name expr) Q E s := by
  obtain ⟨τ, hd⟩ := G.sh .cycD trivial
  obtain ⟨es, n, e, _, _, _, hget⟩ := dict_open hd
  have h1 : (α .cyc, instObj 346 (α .cycD)) ∈ news := by
    have := hs _ (mem_led (β := adr α ο δ μ) (σ := σ) (n := st.n) (r := .cyc) trivial)
    rwa [show σ .cyc = _ from G.sh .cyc trivial] at this
  have h2 := hs _ (mem_led (β := adr α ο δ μ) (σ := σ) (n := st.n) (r := .cycD) trivial)
  rw [e] at h2
  exact kbm_bound F X₀ N (InstAt.of_news N h1 h2) hg hh ha hf hgf ht hc (by rw [hget, hl]) h
end
theorem Runs.callM {w : World} {f q : Addr} {self : Value} {pos : List Value} {D U : Nat} {tm l : List (Addr × Obj)} {Post : Value → List (Addr × Obj) → Prop} (H : Runs w f (self :: pos) D U l Post)
    {p : Program} {loose : List Str} {mean : ExcName → Option Value} {mg mb : Str → Option Value} {A : Around} {env : Env} {outer : List Env} {A₀ : Around} {base h₀ : Heap} {L : Addr} {m : Str → Option Value} {s : Shared} {Q E : Value → Shared → Prop}
    (off : Off tm l) (hq : (q, methodObj (.ref f) self) ∈ tm)
    (B : Below A₀ base outer h₀) (F : Fr h₀ L s.heap m) (X : (hd0.heap_1 w.params).In h₀) (N : News h₀ L s.heap (tm ++ l)) (T : Top p loose mean mg mb h₀) (hA : A.frames = some (env :: outer)) (hf : env.frame = some L) (hk : env.scope.kind = .function) (hh : A.handled = none)
    (hd : A.depth + D < recursionLimit) (hu : A.units + U < cLine)
    (k : ∀ r l' h' tk', Fr h₀ L h' m → News h₀ L h' (tm ++ l') → Off tm l' → Post r l' → Q r { s with heap := h', toks := tk' }) :
    wpAny (model PP w) A (PySem.call (.ref q) pos) Q E s :=
  PySem.W.call_meth N (List.mem_append_left _ hq) (H p loose mean mg mb A env outer A₀ base h₀ L m s _ B F X (News.sub N fun _ h => List.mem_append_right _ h) T hA hf hk hh hd hu fun r l' h' tk' F' N' kp hP => by
    obtain ⟨a, b⟩ := News.after (News.sub N fun _ h => List.mem_append_left _ h) off kp N'
    exact k r l' h' tk' F' a b hP)
end

section
open PySem PySem.W PySem.Calls PyProof.Rows
end

section
open PySem PySem.W PySem.Calls PyProof.Rows
variable {w : World} {α : Role → Addr} {ω : Role → Obj} {ο δ : Nat → Addr} {μ : Role → Addr} {σ : Role → Obj} {st : St}
theorem said_13 : True := by
  k_with "getMethod ref" => ((k_here; k_dflt (first | ((with_reducible refine' meth_objs ?zqG ?zqN ?zqs PySem.F.slot_dict_get PySem.F.type_dict_get ?_); (k_extra "m_s")) | ((with_reducible refine' meth_objs ?zqG ?zqN ?zqs PySem.F.slot_dict_pop PySem.F.type_dict_pop ?_); (k_extra "m_s")))))
  k_with "call builtin:dict.get" => ((k_here; k_dflt (first | ((with_reducible refine' get_objs_in ?zqG ?zqN ?zqs ?zqe1 ?_); (k_extra "m_sw")) | ((with_reducible refine' get_objs_out ?zqG ?zqN ?zqs ?zqe1 ?_); (k_extra "m_sw")))))
  k_with "call builtin:dict.pop" => ((k_here; k_dflt ((with_reducible refine' pop_objs ?zqF ?zqN ?zqoff ?zqG ?zqe1 ?zqz1 ?_); (k_extra "m_sc"))))
  k_with "call builtin:list.pop" => ((k_here; k_dflt ((with_reducible refine' pop_sweep ?zqF ?zqN ?zqoff ?zqG ?zqe1 ?zqz1 ?_); (k_extra "m_sc"))))
  k_with "getMethod ref" => ((k_here; (with_reducible refine' meth_lo (r := .sweep) ?zqG ?zqN ?zqs ?zqok ?zqhL PySem.F.slot_list_pop PySem.F.type_list_pop ?zqr1 ?_); k_dflt ((k_extra "m_s"); (case zqhL => exact (Good.sweepL (by assumption)).choose_spec.1))))
  k_with "call builtin:len" => ((k_here; k_dflt ((with_reducible refine' len_sweep ?zqG ?zqN ?zqs ?zqz1 ?_); (k_extra "m_sw"))))
  k_with "call type:list" => ((k_here; k_dflt ((with_reducible refine' list_objs ?zqr1 ?zqF ?zqN ?zqs ?zqG ?zqz1 ?_); (k_extra "m_sk"))))
  k_with "getAttr ref" => ((k_here; k_dflt (first | ((((with_reducible refine' (bound_marks (name := Str.ofString "is_dead")) ?zqF ?zqX ?zqN ?zqs ?zqG ?zqi1 ?zqi2 ?zqi3 ?zqi4 ?zqi5 ?zqi6 ?zqhc ?zqv1 ?_); (k_extra "m_s"); (case zqhc => decide +kernel); (k_extra "m_tk")))) | ((((with_reducible refine' (bound_marks (name := Str.ofString "make_white")) ?zqF ?zqX ?zqN ?zqs ?zqG ?zqi1 ?zqi2 ?zqi3 ?zqi4 ?zqi5 ?zqi6 ?zqhc ?zqv1 ?_); (k_extra "m_s"); (case zqhc => decide +kernel); (k_extra "m_tk")))))))
  k_with "getAttr ref" => ((k_here; k_dflt ((((with_reducible refine' (bound_cyc (name := Str.ofString "free")) ?zqF ?zqX ?zqN ?zqs ?zqG ?zqi1 ?zqi2 ?zqi3 ?zqi4 ?zqi5 ?zqi6 ?zqhc ?zqv1 ?_); (k_extra "m_s"); (case zqhc => decide +kernel); (k_extra "m_tk"))))))
  k_with "setAttr ref" => ((k_here; k_dflt ((with_reducible refine' set_sweep ?zqF ?zqX ?zqN ?zqa1 ?zqG ?zqa2 ?zqi1 ?zqi2 ?zqi3 ?zqi4 ?_); (k_extra "m_sk"))))
  k_with "And" => (((with_reducible show MethP _ _ _ _ _ ∧ _); k_dflt (refine And.intro ?zqma ?_; (case zqma => k_meth)); (try dsimp only [List.nil_append, List.cons_append])))
  trivial
/-- «free» -/
theorem free_spec {i : Nat} (G : Good w α ω ο δ μ σ st) (hi : st.ok i) (hl : i ∈ st.live) (hz : st.live.length ≤ 10000) :
    Runs w 252 [.ref (α .cyc), .ref (ο i)] 30 300 (ledW α ο δ μ σ st) (PostW w α ω ο δ fun v μ' st' => v = .none ∧ μ = μ' ∧ st' = freeAt st i) := by
  (k_extra "m_enter")
  k_steps
  (k_extra "m_done")
  exact ⟨rfl, rfl, rfl⟩
/-- «finalize» -/
theorem finalize_spec (G : Good w α ω ο δ μ σ st) :
    Runs w 266 [.ref (α .cyc), .none] 30 300 (ledW α ο δ μ σ st) (PostW w α ω ο δ fun v μ' st' => (∃ k t, v = .int k t) ∧ μ = μ' ∧ st' = finalize st) := by
  (k_extra "m_enter")
  k_steps
  (k_extra "m_done")
  exact ⟨⟨_, _, rfl⟩, rfl, rfl⟩
end

section
open PySem PySem.W PySem.Calls PyProof.Rows
variable {w : World} {α : Role → Addr} {ω : Role → Obj} {ο δ : Nat → Addr} {μ : Role → Addr} {σ : Role → Obj} {st : St}
/-- what a sweep needs of what is there -/
structure Ws (st : St) : Prop where
  live : ∀ i ∈ st.live, st.ok i
  llen : st.live.length ≤ 1000
  slen : st.sweep.length ≤ 1000
theorem sweepOne_ws {st : St} (h : Ws st) (l : List Nat) (hl : l.length ≤ 1000) (j : Nat) : Ws (sweepOne (st.setSweep l) j) := by
  unfold sweepOne
  split
  · split
    · refine ⟨fun i hi => h.live i ((List.mem_filter.mp hi).1), Nat.le_trans (List.length_filter_le _ _) h.llen, hl⟩
    · exact ⟨h.live, h.llen, hl⟩
  · exact ⟨h.live, h.llen, hl⟩
theorem sweepF_step {st : St} {l : List Nat} {j : Nat} {k : Nat} (hg : st.sweep = l ++ [j]) : sweepF (k + 1) st = sweepF k (sweepOne (st.setSweep l) j) := by
  show (match st.sweep.getLast? with | none => st | some j => sweepF k (sweepOne { st with sweep := st.sweep.dropLast } j)) = _
  have e1 : st.sweep.getLast? = some j := by rw [hg]; simp
  have e2 : st.sweep.dropLast = l := by rw [hg]; simp
  rw [e1, e2]; rfl
theorem sweepF_nil {st : St} {k : Nat} (hg : st.sweep = []) : sweepF k st = st := by
  cases k with
  | zero => rfl
  | succ k =>
    show (match st.sweep.getLast? with | none => st | some j => sweepF k (sweepOne { st with sweep := st.sweep.dropLast } j)) = _
    rw [hg]; rfl
theorem dead_at {i : Nat} (G : Good w α ω ο δ μ σ st) (hi : st.ok i) (hd : st.dead i) : Runs w 49 [.ref (α .marks), .ref (ο i)] 10 80 (ledW α ο δ μ σ st) (fun v news' => news' = ledW α ο δ μ σ st ∧ v = .bool true) := by
  have := is_dead_spec G hi
  rw [hd] at this
  exact this
theorem alive_at {i : Nat} (G : Good w α ω ο δ μ σ st) (hi : st.ok i) (hd : ¬ st.dead i) : Runs w 49 [.ref (α .marks), .ref (ο i)] 10 80 (ledW α ο δ μ σ st) (fun v news' => news' = ledW α ο δ μ σ st ∧ v = .bool false) := by
  have := is_dead_spec G hi
  rw [Bool.eq_false_iff.mpr hd] at this
  exact this
theorem many_obj {a b c d : Option Value} {m : Str → Option Value} : (fun y => if y = Str.ofString "many" then a else if y = Str.ofString "obj" then b else if y = Str.ofString "obj" then c else if y = Str.ofString "many" then d else m y) = (fun y => if y = Str.ofString "obj" then b else if y = Str.ofString "many" then a else m y) := by
  funext y
  by_cases h : y = Str.ofString "obj"
  · subst h; simp only [strEq, String.reduceEq, ↓reduceIte]
  · by_cases h2 : y = Str.ofString "many"
    · subst h2; simp only [strEq, String.reduceEq, ↓reduceIte]
    · simp only [h, h2, ↓reduceIte]
section
theorem said_14 : True := by
  k_with "call ref" => ((fail_if_success k_extra "m_off3"); ((with_reducible show wpAny _ _ (call (Value.ref _) _) _ _ _); refine Hold.mk ?_))
  trivial
/-- «sweep_some» -/
theorem sweep_some_spec {q1 q2 q3 : Addr} {t0 : Tok} (G : Good w α ω ο δ μ σ st) (hw : Ws st)
    (off : Off [(q3, methodObj (.ref 56) (.ref (α .marks))), (q2, methodObj (.ref 252) (.ref (α .cyc))), (q1, methodObj (.ref 49) (.ref (α .marks)))] (ledW α ο δ μ σ st)) :
    Runs w 147 [.ref (μ .sweep), .ref (α .objs), .int 16 t0, .ref q1, .ref q2, .ref q3] 60 600 ([(q3, methodObj (.ref 56) (.ref (α .marks))), (q2, methodObj (.ref 252) (.ref (α .cyc))), (q1, methodObj (.ref 49) (.ref (α .marks)))] ++ ledW α ο δ μ σ st)
      (fun v news' => ∃ σ', (∃ k t, v = .int k t) ∧ news' = [(q3, methodObj (.ref 56) (.ref (α .marks))), (q2, methodObj (.ref 252) (.ref (α .cyc))), (q1, methodObj (.ref 49) (.ref (α .marks)))] ++ ledW α ο δ μ σ' (sweepF 16 st) ∧ Good w α ω ο δ μ σ' (sweepF 16 st) ∧
        Off [(q3, methodObj (.ref 56) (.ref (α .marks))), (q2, methodObj (.ref 252) (.ref (α .cyc))), (q1, methodObj (.ref 49) (.ref (α .marks)))] (ledW α ο δ μ σ' (sweepF 16 st))) := by
  (k_extra "m_enter")
  k_steps
  unfold Hold
  (try k_fold)
  rename Fr _ _ _ _ => F1
  rename News _ _ _ _ => N1
  refine while_W (n₀ := 16) (fun n m' nw => ∀ C : Prop, (∀ (k : Int) (u : Option Value) (t : Tok) (σ' : Role → Obj) (st' : St), m' = (fun y => if y = Str.ofString "obj" then u else if y = Str.ofString "many" then some (.int k t) else if y = Str.ofString "waiting" then some (.ref (μ .sweep)) else if y = Str.ofString "objects" then some (.ref (α .objs)) else if y = Str.ofString "most" then some (.int 16 t0) else if y = Str.ofString "is_dead" then some (.ref q1) else if y = Str.ofString "free" then some (.ref q2) else if y = Str.ofString "keep" then some (.ref q3) else none)
    → nw = [(q3, methodObj (.ref 56) (.ref (α .marks))), (q2, methodObj (.ref 252) (.ref (α .cyc))), (q1, methodObj (.ref 49) (.ref (α .marks)))] ++ ledW α ο δ μ σ' st' → Off [(q3, methodObj (.ref 56) (.ref (α .marks))), (q2, methodObj (.ref 252) (.ref (α .cyc))), (q1, methodObj (.ref 49) (.ref (α .marks)))] (ledW α ο δ μ σ' st') → Good w α ω ο δ μ σ' st' → Ws st' → k + (n : Int) = 16 → sweepF n st' = sweepF 16 st → C) → C) F1 N1 ?_ ?_
  · refine fun C c => c 0 none ?_ σ st ?_ rfl off G hw rfl rfl
    rotate_left
    funext y
    by_cases h : y = Str.ofString "obj"
    · subst h; simp only [strEq, String.reduceEq, ↓reduceIte]
    · simp only [h, ↓reduceIte]; rfl
  · intro n m₁ nw h1 tk1 F2 N2 hJ0
    (try dsimp only)
    (try k_fold)
    refine hJ0 _ ?_
    clear hJ0
    rintro k u t σ' st' rfl rfl off2 G2 hw2 hkn hp
    dsimp only [List.cons_append, List.nil_append] at N2
    have hsl := hw2.slen
    have hll := hw2.llen
    cases hgl : st'.sweep.getLast? with
    | none =>
      have hnil : st'.sweep = [] := List.getLast?_eq_none_iff.mp hgl
      have hln : st'.sweep.length = 0 := by rw [hnil]; rfl
      k_steps
      · (try dsimp only)
        rw [sweepF_nil hnil] at hp
        exact Done.intro (by k_asm) (by k_asm) ⟨σ', ⟨_, _, rfl⟩, by rw [← hp]; try rfl, hp ▸ G2, hp ▸ off2⟩
      · (try dsimp only)
        rw [sweepF_nil hnil] at hp
        exact Done.intro (by k_asm) (by k_asm) ⟨σ', ⟨_, _, rfl⟩, by rw [← hp]; try rfl, hp ▸ G2, hp ▸ off2⟩
    | some i =>
      have hg := last_split hgl
      generalize st'.sweep.dropLast = l at hg
      have hln : st'.sweep.length = l.length + 1 := by rw [hg]; simp
      have hws := sweepOne_ws hw2 l (by omega) i
      have hst : ∀ n', n = n' + 1 → sweepF n' (sweepOne (st'.setSweep l) i) = sweepF 16 st := fun n' e => by
        rw [← sweepF_step hg, ← e]; exact hp
      have hn0 : k < 16 → ∃ n', n = n' + 1 := fun h => ⟨n - 1, by omega⟩
      by_cases hi : i ∈ st'.live
      · have hok := hw2.live i hi
        k_steps
        · obtain ⟨n', rfl⟩ := hn0 (by assumption)
          have hst := hst n' rfl
          by_cases hd : st'.dead i
          · have eS : sweepOne (st'.setSweep l) i = freeAt (st'.setSweep l) i := (if_pos (c := i ∈ st'.live) hi).trans (if_pos (c := st'.dead i) hd)
            rw [eS] at hst hws
            unfold Hold
            (try k_fold)
            rename Good _ _ _ _ _ _ _ (st'.setSweep l) => G3
            ((refine' Runs.callM (dead_at G3 hok hd) ?offq33 ?hqq33 ?Bq33 ?Fq33 ?Xq33 ?Nq33 ?Tq33 ?hAq33 ?hfq33 ?hkq33 ?hhq33 ?hdq33 ?huq33 ?_; (case offq33 => assumption); (case hqq33 => (first | assumption | k_mem)); (case Bq33 => k_asm); (case Fq33 => k_asm); (case Xq33 => k_asm); (case Nq33 => (k_extra "m_news")); (case Tq33 => k_asm); (case hAq33 => exact rfl); (case hfq33 => exact rfl); (case hkq33 => exact rfl); (case hhq33 => exact rfl); (case hdq33 => (k_extra "m_room")); (case huq33 => (k_extra "m_units")); k_whole; (try dsimp only)))
            refine kRT ?_
            intro h4 tk4 F4 N4 off4
            (try dsimp only)
            (try k_fold)
            dsimp only [List.cons_append, List.nil_append] at N4
            k_steps
            unfold Hold
            (try k_fold)
            ((refine' Runs.callM (free_spec G3 hok hi (by show st'.live.length ≤ 10000; omega)) ?offq34 ?hqq34 ?Bq34 ?Fq34 ?Xq34 ?Nq34 ?Tq34 ?hAq34 ?hfq34 ?hkq34 ?hhq34 ?hdq34 ?huq34 ?_; (case offq34 => assumption); (case hqq34 => (first | assumption | k_mem)); (case Bq34 => k_asm); (case Fq34 => k_asm); (case Xq34 => k_asm); (case Nq34 => (k_extra "m_news")); (case Tq34 => k_asm); (case hAq34 => exact rfl); (case hfq34 => exact rfl); (case hkq34 => exact rfl); (case hhq34 => exact rfl); (case hdq34 => (k_extra "m_room")); (case huq34 => (k_extra "m_units")); k_whole; (try dsimp only)))
            refine kE1 ?_
            intro σ4 h4 tk4 F4 N4 off4 G4
            (try dsimp only)
            (try k_fold)
            dsimp only [List.cons_append, List.nil_append] at N4
            k_steps
            rename Fr _ _ _ _ => F5
            rw [many_obj] at F5
            exact ⟨_, _, _, _, n', rfl, F5, N4, Nat.lt_succ_self _, fun C c => c (k + 1) _ _ σ4 _ rfl rfl off4 G4 hws (by omega) hst⟩
          · have eS : sweepOne (st'.setSweep l) i = (st'.setSweep l).setMark i st'.white := (if_pos (c := i ∈ st'.live) hi).trans (if_neg (c := st'.dead i) hd)
            rw [eS] at hst hws
            unfold Hold
            (try k_fold)
            rename Good _ _ _ _ _ _ _ (st'.setSweep l) => G3
            ((refine' Runs.callM (alive_at G3 hok hd) ?offq35 ?hqq35 ?Bq35 ?Fq35 ?Xq35 ?Nq35 ?Tq35 ?hAq35 ?hfq35 ?hkq35 ?hhq35 ?hdq35 ?huq35 ?_; (case offq35 => assumption); (case hqq35 => (first | assumption | k_mem)); (case Bq35 => k_asm); (case Fq35 => k_asm); (case Xq35 => k_asm); (case Nq35 => (k_extra "m_news")); (case Tq35 => k_asm); (case hAq35 => exact rfl); (case hfq35 => exact rfl); (case hkq35 => exact rfl); (case hhq35 => exact rfl); (case hdq35 => (k_extra "m_room")); (case huq35 => (k_extra "m_units")); k_whole; (try dsimp only)))
            refine kRT ?_
            intro h4 tk4 F4 N4 off4
            (try dsimp only)
            (try k_fold)
            dsimp only [List.cons_append, List.nil_append] at N4
            k_steps
            unfold Hold
            (try k_fold)
            ((refine' Runs.callM (make_white_spec G3 hok) ?offq36 ?hqq36 ?Bq36 ?Fq36 ?Xq36 ?Nq36 ?Tq36 ?hAq36 ?hfq36 ?hkq36 ?hhq36 ?hdq36 ?huq36 ?_; (case offq36 => assumption); (case hqq36 => (first | assumption | k_mem)); (case Bq36 => k_asm); (case Fq36 => k_asm); (case Xq36 => k_asm); (case Nq36 => (k_extra "m_news")); (case Tq36 => k_asm); (case hAq36 => exact rfl); (case hfq36 => exact rfl); (case hkq36 => exact rfl); (case hhq36 => exact rfl); (case hdq36 => (k_extra "m_room")); (case huq36 => (k_extra "m_units")); k_whole; (try dsimp only)))
            refine kE1 ?_
            intro σ4 h4 tk4 F4 N4 off4 G4
            (try dsimp only)
            (try k_fold)
            dsimp only [List.cons_append, List.nil_append] at N4
            k_steps
            rename Fr _ _ _ _ => F5
            rw [many_obj] at F5
            exact ⟨_, _, _, _, n', rfl, F5, N4, Nat.lt_succ_self _, fun C c => c (k + 1) _ _ σ4 _ rfl rfl off4 G4 hws (by omega) hst⟩
        · (try dsimp only)
          have hn : n = 0 := by omega
          rw [hn, show sweepF 0 st' = st' from rfl] at hp
          exact Done.intro (by k_asm) (by k_asm) ⟨σ', ⟨_, _, rfl⟩, by rw [← hp]; try rfl, hp ▸ G2, hp ▸ off2⟩
      · have eS : sweepOne (st'.setSweep l) i = st'.setSweep l := if_neg (c := i ∈ st'.live) hi
        rw [eS] at hst hws
        k_steps
        · obtain ⟨n', rfl⟩ := hn0 (by assumption)
          have hst := hst n' rfl
          rename Fr _ _ _ _ => F5
          rename Good _ _ _ _ _ _ _ (st'.setSweep l) => G3
          rename News _ _ _ _ => N4
          rename Off _ (ledW α ο δ μ _ (st'.setSweep l)) => off4
          rw [many_obj] at F5
          exact ⟨_, _, _, _, n', rfl, F5, N4, Nat.lt_succ_self _, fun C c => c (k + 1) _ _ _ _ rfl rfl off4 G3 hws (by omega) hst⟩
        · (try dsimp only)
          have hn : n = 0 := by omega
          rw [hn, show sweepF 0 st' = st' from rfl] at hp
          exact Done.intro (by k_asm) (by k_asm) ⟨σ', ⟨_, _, rfl⟩, by rw [← hp]; try rfl, hp ▸ G2, hp ▸ off2⟩
end
section
variable {w : World} {α : Role → Addr} {ω : Role → Obj} {ο δ : Nat → Addr} {μ : Role → Addr} {A1 : Heap → Prop} {A2 A3 : Heap → List (Addr × Obj) → Prop} {C : Value → Heap → Tok → Prop} {B : List (Addr × Obj)}
theorem said_15 : True := by
  k_with "m_off3" => (skip)
  trivial
theorem kE12 {X : St} (k : ∀ σ' i t h' tk', A1 h' → A2 h' (B ++ ledW α ο δ μ σ' X) → A3 h' (B ++ ledW α ο δ μ σ' X) → Good w α ω ο δ μ σ' X → Off B (ledW α ο δ μ σ' X) → C (.int i t) h' tk') :
    ∀ r nw h' tk', A1 h' → A2 h' nw → A3 h' nw → (∃ σ', (∃ k t, r = .int k t) ∧ nw = B ++ ledW α ο δ μ σ' X ∧ Good w α ω ο δ μ σ' X ∧ Off B (ledW α ο δ μ σ' X)) → C r h' tk' := by
  rintro r nw h' tk' a b a3 ⟨σ', ⟨i, t, rfl⟩, rfl, G, o⟩; exact k σ' i t h' tk' a b a3 G o
end
end

section
open PySem PySem.W PySem.Calls PyProof.Rows
variable {w : World} {α : Role → Addr} {ω : Role → Obj} {ο δ : Nat → Addr} {μ : Role → Addr} {σ : Role → Obj} {st : St}
theorem said_16 : True := by
  k_with "call ref" => (((with_reducible refine' hold_in [147, 252, 231, 245, 259, 266, 273, 280, 308] ?zqr ?_); (case zqr => decide)))
  trivial
theorem off3 {a b c : Addr × Obj} {l : List (Addr × Obj)} (h1 : ∀ p ∈ l, p.1 < c.1) (h2 : ∀ p ∈ c :: l, p.1 < b.1) (h3 : ∀ p ∈ b :: c :: l, p.1 < a.1) : Off [a, b, c] l := by
  intro p hp hq
  obtain ⟨q, hq, e⟩ := List.mem_map.mp hq
  simp only [List.mem_cons, List.not_mem_nil, or_false] at hp
  rcases hp with rfl | rfl | rfl
  · have := h3 q (by simp [hq]); rw [e] at this; exact Nat.lt_irrefl _ this
  · have := h2 q (by simp [hq]); rw [e] at this; exact Nat.lt_irrefl _ this
  · have := h1 q hq; rw [e] at this; exact Nat.lt_irrefl _ this
theorem sweepF_ws : ∀ (k : Nat) (st : St), Ws st → Ws (sweepF k st)
  | 0, _, h => h
  | k + 1, st, h => by
    cases hgl : st.sweep.getLast? with
    | none => rw [sweepF_nil (List.getLast?_eq_none_iff.mp hgl)]; exact h
    | some i =>
      have hg := last_split hgl
      rw [sweepF_step hg]
      have : st.sweep.dropLast.length ≤ 1000 := by rw [List.length_dropLast]; have := h.slen; omega
      exact sweepF_ws k _ (sweepOne_ws h _ this i)
theorem max0 (x : Int) : (if x > 0 then x else 0) = max 0 x := by
  rw [Int.max_def]; split <;> split <;> omega
/-- «sweep» -/
theorem sweep_spec (G : Good w α ω ο δ μ σ st) (hw : Ws st) :
    Runs w 259 [.ref (α .cyc)] 100 1000 (ledW α ο δ μ σ st) (PostW w α ω ο δ fun v μ' st' => (∃ k t, v = .int k t) ∧ μ = μ' ∧ st' = sweepStep st) := by
  (k_extra "m_enter")
  k_steps
  unfold Hold
  (try k_fold)
  rename (∀ p ∈ _ :: _ :: _, _) => l3
  rename (∀ p ∈ _ :: ledW α ο δ μ σ st, _) => l2
  rename (∀ p ∈ ledW α ο δ μ σ st, _) => l1
  ((refine' Runs.call (sweep_some_spec G hw (off3 l1 l2 l3)) ?Bq37 ?Fq37 ?Xq37 ?Nq37 ?Tq37 ?hAq37 ?hfq37 ?hkq37 ?hhq37 ?hdq37 ?huq37 ?_; (case Bq37 => k_asm); (case Fq37 => k_asm); (case Xq37 => k_asm); (case Nq37 => (k_extra "m_news")); (case Tq37 => k_asm); (case hAq37 => exact rfl); (case hfq37 => exact rfl); (case hkq37 => exact rfl); (case hhq37 => exact rfl); (case hdq37 => (k_extra "m_room")); (case huq37 => (k_extra "m_units")); k_whole; (try dsimp only)))
  refine kE12 ?_
  intro σ4 k t h4 tk4 F4 N4 hKp G4 off4
  clear hKp
  (try dsimp only)
  (try k_fold)
  replace N4 := News.sub N4 (fun p hp => List.mem_append_right _ hp)
  clear off4 l1 l2 l3
  have hw4 := sweepF_ws 16 st hw
  generalize e4 : sweepF 16 st = st4 at *
  have hsl := hw4.slen
  have hss : ∀ (x : Int) (st2 : St), st2 = (if st4.sweep = [] then st4.setPhase 3 else st4) → x = st2.est - (st.total - st2.total) → st2.setEst (if x > 0 then x else 0) = sweepStep st := by
    rintro x st2 rfl rfl
    rw [max0]
    unfold sweepStep
    rw [e4]
    rfl
  k_steps
  · have hnil : st4.sweep = [] := List.length_eq_zero_iff.mp (by omega)
    rw [if_pos hnil] at hss
    (k_extra "m_done")
    exact ⟨⟨_, _, rfl⟩, rfl, hss _ _ rfl rfl⟩
  · have hnil : ¬ st4.sweep = [] := fun e => by rename ¬ _ = _ => h; exact h (by rw [e]; rfl)
    rw [if_neg hnil] at hss
    (k_extra "m_done")
    exact ⟨⟨_, _, rfl⟩, rfl, hss _ _ rfl rfl⟩
theorem roots_spec (G : Good w α ω ο δ μ σ st) : Reads1 w 217 [.ref (α .cyc)] 10 80 α ο δ μ σ st (fun v => v = .ref (α .roots)) := by
  (k_extra "m_enter")
  k_steps
  (k_extra "m_reader")
  rfl
theorem said_17 : True := by
  k_with "call ref" => (((try dsimp only [List.append_nil, List.cons_append, List.nil_append]); (with_reducible refine' Runs.call (roots_spec ?zqG) ?zqB ?zqF ?zqX ?zqN ?zqT ?zqr1 ?zqr2 ?zqr3 ?zqr4 ?zqro ?zqun ?_); (k_extra "m_rd")))
  trivial
theorem late_roots_spec (G : Good w α ω ο δ μ σ st) : Reads1 w 224 [.ref (α .cyc), .none] 20 160 α ο δ μ σ st (fun v => v = .ref (α .roots)) := by
  (k_extra "m_enter")
  k_steps
  (k_extra "m_reader")
  rfl
theorem said_18 : True := by
  k_with "call ref" => (((try dsimp only [List.append_nil, List.cons_append, List.nil_append]); (with_reducible refine' Runs.call (late_roots_spec ?zqG) ?zqB ?zqF ?zqX ?zqN ?zqT ?zqr1 ?zqr2 ?zqr3 ?zqr4 ?zqro ?zqun ?_); (k_extra "m_rd")))
  trivial
theorem at_end_spec : Runs w 238 [.ref (α .cyc)] 10 80 (ledW α ο δ μ σ st) (fun v news' => news' = ledW α ο δ μ σ st ∧ ∃ t, v = .int 0 t) := by
  (k_extra "m_enter")
  k_steps
  (try dsimp only)
  exact Done.intro (by k_asm) (by k_asm) ⟨rfl, _, rfl⟩
theorem said_19 : True := by
  k_with "call ref" => (((try dsimp only [List.append_nil, List.cons_append, List.nil_append]); (with_reducible refine' Runs.call (at_end_spec) ?zqB ?zqF ?zqX ?zqN ?zqT ?zqr1 ?zqr2 ?zqr3 ?zqr4 ?zqro ?zqun ?_); (k_extra "m_rdE")))
  trivial
/-- «mark_roots» -/
theorem mark_roots_spec (Fn : Fns w α ω) (G : Good w α ω ο δ μ σ st) (hw : Wg st) :
    Runs w 231 [.ref (α .cyc)] 280 2800 (ledW α ο δ μ σ st) (PostW w α ω ο δ fun v μ' st' => v = .none ∧ (∀ r, r ≠ .grey → r ≠ .again → r ≠ .weak → μ' r = μ r) ∧ st' = (begin st).setPhase 1) := by
  (k_extra "m_enter")
  k_steps
  unfold Hold
  (try k_fold)
  ((refine' Runs.call (begin_spec Fn G hw) ?Bq38 ?Fq38 ?Xq38 ?Nq38 ?Tq38 ?hAq38 ?hfq38 ?hkq38 ?hhq38 ?hdq38 ?huq38 ?_; (case Bq38 => k_asm); (case Fq38 => k_asm); (case Xq38 => k_asm); (case Nq38 => (k_extra "m_news")); (case Tq38 => k_asm); (case hAq38 => exact rfl); (case hfq38 => exact rfl); (case hkq38 => exact rfl); (case hhq38 => exact rfl); (case hdq38 => (k_extra "m_room")); (case huq38 => (k_extra "m_units")); k_whole; (try dsimp only)))
  refine kE2 ?_
  intro μ' σ2 h2 tk2 F2 N2 hKp G2 hμ
  clear hKp
  (try dsimp only)
  (try k_fold)
  k_steps
  (k_extra "m_done")
  exact ⟨rfl, hμ, rfl⟩
/-- «atomic» -/
theorem atomic_spec (Fn : Fns w α ω) (G : Good w α ω ο δ μ σ st) (hw : Wg st) (hf : (finish st).live.length ≤ 1000) :
    Runs w 245 [.ref (α .cyc), .none] 300 3000 (ledW α ο δ μ σ st) (PostW w α ω ο δ fun v μ' st' => v = .none ∧ (∀ r, r ≠ .grey → r ≠ .again → r ≠ .weak → r ≠ .sweep → μ' r = μ r) ∧ st' = atomic st) := by
  (k_extra "m_enter")
  k_steps
  unfold Hold
  (try k_fold)
  ((refine' Runs.call (finish_spec Fn G hw) ?Bq39 ?Fq39 ?Xq39 ?Nq39 ?Tq39 ?hAq39 ?hfq39 ?hkq39 ?hhq39 ?hdq39 ?huq39 ?_; (case Bq39 => k_asm); (case Fq39 => k_asm); (case Xq39 => k_asm); (case Nq39 => (k_extra "m_news")); (case Tq39 => k_asm); (case hAq39 => exact rfl); (case hfq39 => exact rfl); (case hkq39 => exact rfl); (case hhq39 => exact rfl); (case hdq39 => (k_extra "m_room")); (case huq39 => (k_extra "m_units")); k_whole; (try dsimp only)))
  refine kE2 ?_
  intro μ2 σ2 h2 tk2 F2 N2 hKp G2 hμ
  clear hKp
  (try dsimp only)
  (try k_fold)
  k_steps
  unfold Hold
  (try k_fold)
  ((refine' Runs.call (flip_spec G2) ?Bq40 ?Fq40 ?Xq40 ?Nq40 ?Tq40 ?hAq40 ?hfq40 ?hkq40 ?hhq40 ?hdq40 ?huq40 ?_; (case Bq40 => k_asm); (case Fq40 => k_asm); (case Xq40 => k_asm); (case Nq40 => (k_extra "m_news")); (case Tq40 => k_asm); (case hAq40 => exact rfl); (case hfq40 => exact rfl); (case hkq40 => exact rfl); (case hhq40 => exact rfl); (case hdq40 => (k_extra "m_room")); (case huq40 => (k_extra "m_units")); k_whole; (try dsimp only)))
  refine kE1 ?_
  intro σ3 h3 tk3 F3 N3 hKp G3
  clear hKp
  (try dsimp only)
  (try k_fold)
  have hfl : (flip (finish st)).live.length ≤ 1000 := hf
  k_steps
  (k_extra "m_done")
  refine ⟨rfl, fun r h1 h2 h3 h4 => ?_, ?_⟩
  · rw [upd_ne _ _ h4]; exact hμ r h1 h2 h3
  · rw [max0]
    unfold atomic
    generalize finish st = stf
    show St.setEst _ _ = _
    rw [Int.sub_zero]
    rfl
end

section
open PySem PySem.W PySem.Calls PyProof.Rows
variable {w : World} {α : Role → Addr} {ω : Role → Obj} {ο δ : Nat → Addr} {μ : Role → Addr} {σ : Role → Obj} {st : St}
/-- what moves -/
noncomputable def Moves (μ μ' : Role → Addr) : Prop := ∀ r, r ≠ .grey → r ≠ .again → r ≠ .weak → r ≠ .sweep → μ' r = μ r
theorem Moves.refl (μ : Role → Addr) : Moves μ μ := fun _ _ _ _ _ => rfl
theorem Moves.trans {a b c : Role → Addr} (h : Moves a b) (h' : Moves b c) : Moves a c := fun r h1 h2 h3 h4 => (h' r h1 h2 h3 h4).trans (h r h1 h2 h3 h4)
theorem Moves.of3 {a b : Role → Addr} (h : ∀ r, r ≠ .grey → r ≠ .again → r ≠ .weak → b r = a r) : Moves a b := fun r h1 h2 h3 _ => h r h1 h2 h3
theorem said_20 : True := by
  k_with "m_cut" => (all_goals (first | (exfalso; omega) | skip))
  trivial
theorem get_phase {A : Around} {E : Value → Shared → Prop} {s : Shared} {L : Addr} {h₀ : Heap} {m : Str → Option Value} {news : List (Addr × Obj)} {K : Frag} {expr : Bool} {Q : Value → Shared → Prop} {attr : Option Value} {k : Int} (F : Fr h₀ L s.heap m) (X₀ : K.In h₀) (N : News h₀ L s.heap news) (hs : ∀ p ∈ ledW α ο δ μ σ st, p ∈ news) (G : Good w α ω ο δ μ σ st) (hk : st.phase = k)
    (hg : plainGet K 346 "phase" = true) (hh : hasDictIn K 346 = true) (ha : findIn K (.ref 346) "phase" = some attr) (hn : noGet K attr = true)
    (h : ∀ t, Q (.int k t) { s with toks := s.toks + 1 }) : wpAny (model PP w) A (getAttr (.ref (α .cyc)) "phase" expr) Q E s := by
  subst hk
  exact get_cyc F X₀ N hs G hg hh ha hn (fun τ => rfl) (fun τ => rfl) (fun τ => h (τ 0))
theorem said_21 : True := by
  k_with "getAttr ref" => ((k_here; k_dflt ((with_reducible refine' get_phase ?zqF ?zqX ?zqN ?zqs ?zqG ?zqe1 ?zqi1 ?zqi2 ?zqi3 ?zqi4 ?_); (k_extra "m_si"))))
  trivial
/-- «single_step» -/
theorem single_spec (Fn : Fns w α ω) (G : Good w α ω ο δ μ σ st) (hw : Wg st) (hs : Ws st) (hph : st.phase = 0 ∨ st.phase = 1 ∨ st.phase = 2 ∨ st.phase = 3) (hf : (finish st).live.length ≤ 1000) :
    Runs w 273 [.ref (α .cyc), .none] 320 3200 (ledW α ο δ μ σ st) (PostW w α ω ο δ fun v μ' st' => (∃ k t, v = .int k t) ∧ Moves μ μ' ∧ st' = single st) := by
  have hsum := hw.sum
  (k_extra "m_enter")
  rcases hph with h0 | h0 | h0 | h0
  · have e : single st = (begin st).setPhase 1 := by unfold single; rw [if_pos h0]; rfl
    k_steps
    (k_extra "m_cut")
    unfold Hold
    (try k_fold)
    ((refine' Runs.call (mark_roots_spec Fn G hw) ?Bq41 ?Fq41 ?Xq41 ?Nq41 ?Tq41 ?hAq41 ?hfq41 ?hkq41 ?hhq41 ?hdq41 ?huq41 ?_; (case Bq41 => k_asm); (case Fq41 => k_asm); (case Xq41 => k_asm); (case Nq41 => (k_extra "m_news")); (case Tq41 => k_asm); (case hAq41 => exact rfl); (case hfq41 => exact rfl); (case hkq41 => exact rfl); (case hhq41 => exact rfl); (case hdq41 => (k_extra "m_room")); (case huq41 => (k_extra "m_units")); k_whole; (try dsimp only)))
    refine kE2 ?_
    intro μ2 σ2 h2 tk2 F2 N2 hKp G2 hμ
    clear hKp
    (try dsimp only)
    (try k_fold)
    k_steps
    (k_extra "m_done")
    exact ⟨⟨_, _, rfl⟩, Moves.of3 hμ, e.symm⟩
  · cases hgl : st.grey.getLast? with
    | none =>
      have hnil : st.grey = [] := List.getLast?_eq_none_iff.mp hgl
      have hln : st.grey.length = 0 := by rw [hnil]; rfl
      have e : single st = atomic st := by unfold single; rw [if_neg (by omega), if_pos h0, hgl]
      k_steps
      (k_extra "m_cut")
      unfold Hold
      (try k_fold)
      ((refine' Runs.call (atomic_spec Fn G hw hf) ?Bq42 ?Fq42 ?Xq42 ?Nq42 ?Tq42 ?hAq42 ?hfq42 ?hkq42 ?hhq42 ?hdq42 ?huq42 ?_; (case Bq42 => k_asm); (case Fq42 => k_asm); (case Xq42 => k_asm); (case Nq42 => (k_extra "m_news")); (case Tq42 => k_asm); (case hAq42 => exact rfl); (case hfq42 => exact rfl); (case hkq42 => exact rfl); (case hhq42 => exact rfl); (case hdq42 => (k_extra "m_room")); (case huq42 => (k_extra "m_units")); k_whole; (try dsimp only)))
      refine kE2 ?_
      intro μ2 σ2 h2 tk2 F2 N2 hKp G2 hμ
      clear hKp
      (try dsimp only)
      (try k_fold)
      k_steps
      (k_extra "m_done")
      exact ⟨⟨_, _, rfl⟩, hμ, e.symm⟩
    | some i =>
      have hg := last_split hgl
      have e : single st = propAt st st.grey.dropLast i := by unfold single; rw [if_neg (by omega), if_pos h0, hgl]
      generalize st.grey.dropLast = l at hg e
      have hln : st.grey.length = l.length + 1 := by rw [hg]; simp
      k_steps
      (k_extra "m_cut")
      unfold Hold
      (try k_fold)
      ((refine' Runs.call (propagate_spec Fn G hw.wf (hw.grey i (by rw [hg]; simp)) hg (by omega) (by omega)) ?Bq43 ?Fq43 ?Xq43 ?Nq43 ?Tq43 ?hAq43 ?hfq43 ?hkq43 ?hhq43 ?hdq43 ?huq43 ?_; (case Bq43 => k_asm); (case Fq43 => k_asm); (case Xq43 => k_asm); (case Nq43 => (k_extra "m_news")); (case Tq43 => k_asm); (case hAq43 => exact rfl); (case hfq43 => exact rfl); (case hkq43 => exact rfl); (case hhq43 => exact rfl); (case hdq43 => (k_extra "m_room")); (case huq43 => (k_extra "m_units")); k_whole; (try dsimp only)))
      refine kE3 ?_
      intro k t σ2 h2 tk2 F2 N2 hKp G2
      clear hKp
      (try dsimp only)
      (try k_fold)
      k_steps
      (k_extra "m_done")
      exact ⟨⟨_, _, rfl⟩, Moves.refl _, e.symm⟩
  · have e : single st = sweepStep st := by unfold single; rw [if_neg (by omega), if_neg (by omega), if_pos h0]
    k_steps
    (k_extra "m_cut")
    unfold Hold
    (try k_fold)
    ((refine' Runs.call (sweep_spec G hs) ?Bq44 ?Fq44 ?Xq44 ?Nq44 ?Tq44 ?hAq44 ?hfq44 ?hkq44 ?hhq44 ?hdq44 ?huq44 ?_; (case Bq44 => k_asm); (case Fq44 => k_asm); (case Xq44 => k_asm); (case Nq44 => (k_extra "m_news")); (case Tq44 => k_asm); (case hAq44 => exact rfl); (case hfq44 => exact rfl); (case hkq44 => exact rfl); (case hhq44 => exact rfl); (case hdq44 => (k_extra "m_room")); (case huq44 => (k_extra "m_units")); k_whole; (try dsimp only)))
    refine kE3 ?_
    intro k t σ2 h2 tk2 F2 N2 hKp G2
    clear hKp
    (try dsimp only)
    (try k_fold)
    k_steps
    (k_extra "m_done")
    exact ⟨⟨_, _, rfl⟩, Moves.refl _, e.symm⟩
  · have e : single st = finalize st := by unfold single; rw [if_neg (by omega), if_neg (by omega), if_neg (by omega)]
    k_steps
    (k_extra "m_cut")
    unfold Hold
    (try k_fold)
    ((refine' Runs.call (finalize_spec G) ?Bq45 ?Fq45 ?Xq45 ?Nq45 ?Tq45 ?hAq45 ?hfq45 ?hkq45 ?hhq45 ?hdq45 ?huq45 ?_; (case Bq45 => k_asm); (case Fq45 => k_asm); (case Xq45 => k_asm); (case Nq45 => (k_extra "m_news")); (case Tq45 => k_asm); (case hAq45 => exact rfl); (case hfq45 => exact rfl); (case hkq45 => exact rfl); (case hhq45 => exact rfl); (case hdq45 => (k_extra "m_room")); (case huq45 => (k_extra "m_units")); k_whole; (try dsimp only)))
    refine kE3 ?_
    intro k t σ2 h2 tk2 F2 N2 hKp G2
    clear hKp
    (try dsimp only)
    (try k_fold)
    k_steps
    (k_extra "m_done")
    exact ⟨⟨_, _, rfl⟩, Moves.refl _, e.symm⟩
theorem next_threshold_spec {a : Int} {t1 t2 : Tok} {l : List (Addr × Obj)} : Runs w 168 [.int a t1, .int 200 t2] 10 80 l (fun v news' => news' = l ∧ ∃ t, v = .int ((a * 200).fdiv 100) t) := by
  (k_extra "m_enter")
  k_steps
  (try dsimp only)
  refine Done.intro (news' := l) (by k_asm) (by k_asm) ?_
  exact ⟨rfl, _, rfl⟩
theorem said_22 : True := by
  k_with "call ref" => (((with_reducible refine' Runs.call (next_threshold_spec) ?zqB ?zqF ?zqX ?zqN ?zqT ?zqr1 ?zqr2 ?zqr3 ?zqr4 ?zqro ?zqun ?_); (k_extra "m_rdE")))
  trivial
/-- «set_threshold» -/
theorem set_threshold_spec (G : Good w α ω ο δ μ σ st) :
    Runs w 280 [.ref (α .cyc)] 30 300 (ledW α ο δ μ σ st) (PostW w α ω ο δ fun v μ' st' => v = .none ∧ μ = μ' ∧ st' = st.setThr ((st.est * 200).fdiv 100)) := by
  (k_extra "m_enter")
  k_steps
  (k_extra "m_done")
  exact ⟨rfl, rfl, rfl⟩
end

section
open PySem PySem.W PySem.Calls PyProof.Rows
variable {w : World} {α : Role → Addr} {ω : Role → Obj} {ο δ : Nat → Addr} {μ : Role → Addr} {σ : Role → Obj} {st : St}
/-- what a step needs -/
structure StepOk (st : St) : Prop where
  wg : Wg st
  ws : Ws st
  ph : st.phase = 0 ∨ st.phase = 1 ∨ st.phase = 2 ∨ st.phase = 3
  fin : (finish st).live.length ≤ 1000
/-- steps till a phase is there -/
inductive Chain (ph : Int) : Nat → St → St → Prop
  | done {a : St} : a.phase = ph → Chain ph 0 a a
  | step {n : Nat} {a b : St} : a.phase ≠ ph → StepOk a → Chain ph n (single a) b → Chain ph (n + 1) a b
noncomputable def fullPre (st : St) : St := if st.phase ≤ 1 then ((forget st).setSweep st.live).setPhase 2 else st
noncomputable def FullEnd (g : Heap) (L : Addr) (m : Str → Option Value) (gens : Array GenState) (drawn : Drawn) (os : OsState) (w : World) (α : Role → Addr) (ω : Role → Obj) (ο δ : Nat → Addr) (μ : Role → Addr) (X : St) (fl : Flow) (s' : Shared) : Prop :=
  ∀ C : Prop, (∀ μ' σ' h' tk', fl = .next → s' = ⟨h', gens, drawn, tk', os⟩ → Fr g L h' m → News g L h' (ledW α ο δ μ' σ' X) → Good w α ω ο δ μ' σ' X → Moves μ μ' → C) → C
theorem FullEnd.intro {g : Heap} {L : Addr} {m : Str → Option Value} {gens : Array GenState} {drawn : Drawn} {os : OsState} {X : St} {μ' : Role → Addr} {σ' : Role → Obj} {h' : Heap} {tk' : Tok} (F : Fr g L h' m) (N : News g L h' (ledW α ο δ μ' σ' X)) (G : Good w α ω ο δ μ' σ' X) (hM : Moves μ μ') :
    FullEnd g L m gens drawn os w α ω ο δ μ X .next ⟨h', gens, drawn, tk', os⟩ := fun _ c => c _ _ _ _ rfl rfl F N G hM
theorem cut_full {M : Model} {A : Around} {E : Value → Shared → Prop} {env : Env} {stmt : Stmt} {Q : Flow → Shared → Prop} {hp g : Heap} {L : Addr} {m : Str → Option Value} {gens : Array GenState} {drawn : Drawn} {os : OsState} {tk : Tok} {X : St}
    (_F : Fr g L hp m) (_N : News g L hp (ledW α ο δ μ σ st)) (_G : Good w α ω ο δ μ σ st) (h : ∀ tk, wpAny M A (exec stmt env) (FullEnd g L m gens drawn os w α ω ο δ μ X) E ⟨hp, gens, drawn, tk, os⟩)
    (c : ∀ μ' σ' h' tk', Fr g L h' m → News g L h' (ledW α ο δ μ' σ' X) → Good w α ω ο δ μ' σ' X → Moves μ μ' → Q .next ⟨h', gens, drawn, tk', os⟩) : wpAny M A (exec stmt env) Q E ⟨hp, gens, drawn, tk, os⟩ := by
  refine wpAny_mono (h tk) (fun fl s' hW => ?_) fun _ _ e => e
  refine hW _ ?_
  rintro μ' σ' h' tk' rfl rfl F' N' G' hM
  exact c μ' σ' h' tk' F' N' G' hM
section
theorem said_23 : True := by
  k_with "exec If" => ((fail_if_success k_extra "m_off4"); ((with_reducible rename HoldIf => hOn9); (refine Hold.mk ?_)))
  trivial
/-- «full» -/
theorem full_spec (Fn : Fns w α ω) {st2 st4 : St} {n1 n2 : Nat} (G : Good w α ω ο δ μ σ st) (hl : st.live.length ≤ 1000) (C1 : Chain 3 n1 (fullPre st) st2) (hw2 : Wg st2) (C2 : Chain 0 n2 ((begin st2).setPhase 1) st4) :
    Runs w 308 [.ref (α .cyc), .none] 350 3500 (ledW α ο δ μ σ st) (PostW w α ω ο δ fun v μ' st' => v = .none ∧ Moves μ μ' ∧ st' = st4.setThr ((st4.est * 200).fdiv 100)) := by
  (k_extra "m_enter")
  have hOn : HoldIf := trivial
  k_steps
  unfold Hold
  (try k_fold)
  (with_reducible rename HoldIf => hOn9)
  (with_reducible rename Fr _ _ _ _ => F0)
  (with_reducible rename News _ _ _ _ => N0)
  (try dsimp only)
  refine cut_full (X := fullPre st) F0 N0 G ?_ ?_
  · clear hOn9 C1 C2 hw2
    intro tk0
    by_cases hp : st.phase ≤ 1
    · have e1 : fullPre st = ((forget st).setSweep st.live).setPhase 2 := if_pos hp
      rw [e1]
      clear e1
      k_steps
      unfold Hold
      (try k_fold)
      ((refine' Runs.call (forget_spec G) ?Bq46 ?Fq46 ?Xq46 ?Nq46 ?Tq46 ?hAq46 ?hfq46 ?hkq46 ?hhq46 ?hdq46 ?huq46 ?_; (case Bq46 => k_asm); (case Fq46 => k_asm); (case Xq46 => k_asm); (case Nq46 => (k_extra "m_news")); (case Tq46 => k_asm); (case hAq46 => exact rfl); (case hfq46 => exact rfl); (case hkq46 => exact rfl); (case hhq46 => exact rfl); (case hdq46 => (k_extra "m_room")); (case huq46 => (k_extra "m_units")); k_whole; (try dsimp only)))
      refine kE2 ?_
      intro μ1 σ1 h2 tk2 F2 N2 hKp G1 hμ
      clear hKp
      (try dsimp only)
      (try k_fold)
      have hl' : (forget st).live.length ≤ 1000 := hl
      k_steps
      (with_reducible rename Good _ _ _ _ _ (upd μ1 _ _) _ (((forget st).setSweep _).setPhase 2) => G1')
      have hμ1 : ∀ a, Moves μ (upd μ1 .sweep a) := fun a r h1 h2 h3 h4 => (upd_ne _ _ h4).trans (hμ r h1 h2 h3)
      exact FullEnd.intro (by k_asm) (by k_asm) G1' (hμ1 _)
    · have e1 : fullPre st = st := if_neg hp
      rw [e1]
      clear e1
      k_steps
      exact FullEnd.intro (by k_asm) (by k_asm) G (Moves.refl μ)
  · clear F0 N0 hOn9 G hl
    intro μ0 σ0 h0 tk0 F0 N0 G0 hμ0
    generalize fullPre st = X0 at C1 N0 G0
    (try dsimp only)
    k_steps
    unfold Hold
    (try k_fold)
    rename Fr _ _ _ _ => F1
    rename News _ _ _ _ => N1
    refine while_W (n₀ := n1) (fun n m' nw => ∀ C : Prop, (∀ μ' σ' st', m' = (fun y => if y = Str.ofString "self" then some (.ref (α .cyc)) else if y = Str.ofString "thread" then some .none else none) → nw = ledW α ο δ μ' σ' st' → Good w α ω ο δ μ' σ' st' → Moves μ μ' → Chain 3 n st' st2 → C) → C) F1 N1 ?_ ?_
    · exact fun C k => k _ _ _ rfl rfl G0 hμ0 C1
    · clear F1 N1 G0 C1
      intro n m₁ nw h1 tk1 F2 N2 hJ0
      (try dsimp only)
      (try k_fold)
      refine hJ0 _ ?_
      clear hJ0
      rintro μ' σ' st' rfl rfl G2 hμ2 C
      cases C with
      | done hph =>
        k_steps
        (k_extra "m_cut")
        clear hph
        unfold Hold
        (try k_fold)
        ((refine' Runs.call (mark_roots_spec Fn G2 hw2) ?Bq47 ?Fq47 ?Xq47 ?Nq47 ?Tq47 ?hAq47 ?hfq47 ?hkq47 ?hhq47 ?hdq47 ?huq47 ?_; (case Bq47 => k_asm); (case Fq47 => k_asm); (case Xq47 => k_asm); (case Nq47 => (k_extra "m_news")); (case Tq47 => k_asm); (case hAq47 => exact rfl); (case hfq47 => exact rfl); (case hkq47 => exact rfl); (case hhq47 => exact rfl); (case hdq47 => (k_extra "m_room")); (case huq47 => (k_extra "m_units")); k_whole; (try dsimp only)))
        refine kE2 ?_
        intro μ4 σ4 h2 tk2 F3 N3 hKp G4 hμ4
        clear hKp
        (try dsimp only)
        (try k_fold)
        k_steps
        unfold Hold
        (try k_fold)
        rename Fr _ _ _ _ => F1
        rename News _ _ _ _ => N1
        refine while_W (n₀ := n2) (fun n m' nw => ∀ C : Prop, (∀ μ' σ' st', m' = (fun y => if y = Str.ofString "self" then some (.ref (α .cyc)) else if y = Str.ofString "thread" then some .none else none) → nw = ledW α ο δ μ' σ' st' → Good w α ω ο δ μ' σ' st' → Moves μ μ' → Chain 0 n st' st4 → C) → C) F1 N1 ?_ ?_
        · exact fun C k => k _ _ _ rfl rfl G4 (hμ2.trans (Moves.of3 hμ4)) C2
        · clear F1 N1
          intro n m₁ nw h1 tk1 F2 N2 hJ0
          (try dsimp only)
          (try k_fold)
          refine hJ0 _ ?_
          clear hJ0
          rintro μ' σ' st' rfl rfl G2 hμ2 C
          cases C with
          | done hph =>
            k_steps
            (k_extra "m_cut")
            unfold Hold
            (try k_fold)
            ((refine' Runs.call (set_threshold_spec G2) ?Bq48 ?Fq48 ?Xq48 ?Nq48 ?Tq48 ?hAq48 ?hfq48 ?hkq48 ?hhq48 ?hdq48 ?huq48 ?_; (case Bq48 => k_asm); (case Fq48 => k_asm); (case Xq48 => k_asm); (case Nq48 => (k_extra "m_news")); (case Tq48 => k_asm); (case hAq48 => exact rfl); (case hfq48 => exact rfl); (case hkq48 => exact rfl); (case hhq48 => exact rfl); (case hdq48 => (k_extra "m_room")); (case huq48 => (k_extra "m_units")); k_whole; (try dsimp only)))
            refine kE1 ?_
            intro σ3 h2 tk2 F3 N3 hKp G3
            clear hKp
            (try dsimp only)
            (try k_fold)
            k_steps
            (k_extra "m_done")
            exact ⟨rfl, hμ2, rfl⟩
          | step hph ok C' =>
            k_steps
            (k_extra "m_cut")
            unfold Hold
            (try k_fold)
            ((refine' Runs.call (single_spec Fn G2 ok.wg ok.ws ok.ph ok.fin) ?Bq49 ?Fq49 ?Xq49 ?Nq49 ?Tq49 ?hAq49 ?hfq49 ?hkq49 ?hhq49 ?hdq49 ?huq49 ?_; (case Bq49 => k_asm); (case Fq49 => k_asm); (case Xq49 => k_asm); (case Nq49 => (k_extra "m_news")); (case Tq49 => k_asm); (case hAq49 => exact rfl); (case hfq49 => exact rfl); (case hkq49 => exact rfl); (case hhq49 => exact rfl); (case hdq49 => (k_extra "m_room")); (case huq49 => (k_extra "m_units")); k_whole; (try dsimp only)))
            refine kE4 ?_
            intro k t μ3 σ3 h2 tk2 F3 N3 hKp G3 hμ3
            clear hKp
            (try dsimp only)
            (try k_fold)
            k_steps
            exact ⟨_, _, _, _, _, rfl, by k_asm, by k_asm, Nat.lt_succ_self _, fun C k => k μ3 σ3 _ rfl rfl G3 (hμ2.trans hμ3) C'⟩
      | step hph ok C' =>
        k_steps
        (k_extra "m_cut")
        unfold Hold
        (try k_fold)
        ((refine' Runs.call (single_spec Fn G2 ok.wg ok.ws ok.ph ok.fin) ?Bq50 ?Fq50 ?Xq50 ?Nq50 ?Tq50 ?hAq50 ?hfq50 ?hkq50 ?hhq50 ?hdq50 ?huq50 ?_; (case Bq50 => k_asm); (case Fq50 => k_asm); (case Xq50 => k_asm); (case Nq50 => (k_extra "m_news")); (case Tq50 => k_asm); (case hAq50 => exact rfl); (case hfq50 => exact rfl); (case hkq50 => exact rfl); (case hhq50 => exact rfl); (case hdq50 => (k_extra "m_room")); (case huq50 => (k_extra "m_units")); k_whole; (try dsimp only)))
        refine kE4 ?_
        intro k t μ3 σ3 h2 tk2 F3 N3 hKp G3 hμ3
        clear hKp
        (try dsimp only)
        (try k_fold)
        k_steps
        exact ⟨_, _, _, _, _, rfl, by k_asm, by k_asm, Nat.lt_succ_self _, fun C k => k μ3 σ3 _ rfl rfl G3 (hμ2.trans hμ3) C'⟩
end
end

section
open PySem PySem.W PySem.Calls PyProof.Rows
variable {w : World} {α : Role → Addr} {ω : Role → Obj} {ο δ : Nat → Addr} {μ : Role → Addr} {σ : Role → Obj} {st : St}
theorem said_24 : True := by
  k_with "m_off4" => (skip)
  trivial
/-- «_law_rained» -/
theorem rained_spec {gut cells : Addr} {turn : Nat} {many : Int} {t tm : Tok} {k kc : Nat} {vs : List Value} {ns : List Int} (hne : @Ne Nat gut cells) (hm : 0 < many) (hi : IntsAre vs ns) (hl : ns.length ≤ 60) :
    Runs w 378 [.ref gut, .int many tm] 20 200 [(gut, PySem.W.listOf #[.ref cells, .int (turn : Int) t] k), (cells, PySem.W.listOf vs.toArray kc)]
      (fun v news' => ∃ r t1 t2 k', v = .int r t1 ∧ 0 ≤ r ∧ r < many ∧ news' = [(gut, PySem.W.listOf #[.ref cells, .int ((turn + 1 : Nat) : Int) t2] k'), (cells, PySem.W.listOf vs.toArray kc)]) := by
  have hmod : ∀ a : Int, 0 ≤ a.fmod many ∧ a.fmod many < many := fun a => by
    rw [Int.fmod_eq_emod_of_nonneg a (Int.le_of_lt hm)]
    exact ⟨Int.emod_nonneg a (Int.ne_of_gt hm), Int.emod_lt_of_pos a hm⟩
  (k_extra "m_enter")
  k_steps
  all_goals ((try dsimp only); refine Done.intro (by k_asm) (by k_asm) ?_)
  · exact ⟨_, _, _, _, rfl, (hmod _).1, (hmod _).2, rfl⟩
  · exact ⟨_, _, _, _, rfl, (hmod _).1, (hmod _).2, rfl⟩
/-- what a spec of a part of the ledger tells of the whole -/
theorem Runs.frame {w : World} {f : Addr} {args : List Value} {D U : Nat} {small big : List (Addr × Obj)} {P0 P1 : Value → List (Addr × Obj) → Prop} (H : Runs w f args D U small P0) (hsub : ∀ p ∈ small, p ∈ big)
    (k : ∀ (h₀ h h' : Heap) (L : Addr) v small', News h₀ L h big → Kept h small h' small' → News h₀ L h' small' → P0 v small' → ∃ big', News h₀ L h' big' ∧ (∀ p ∈ big', p.1 ∈ big.map (·.1) ∨ p ∈ small') ∧ P1 v big') : Runs w f args D U big P1 := by
  intro p loose mean mg mb A env outer A₀ base h₀ L m s R B F X N T hA hf hke hh hd hu K
  refine H p loose mean mg mb A env outer A₀ base h₀ L m s R B F X (News.sub N hsub) T hA hf hke hh hd hu fun r small' h' tk' F' N' kp hP => ?_
  obtain ⟨big', N2, hb, hP1⟩ := k h₀ s.heap h' L r small' N kp N' hP
  refine K r big' h' tk' F' N2 ⟨fun b o e hn => kp.1 b o e fun hq => hn ?_, fun q hq => ?_⟩ hP1
  · obtain ⟨q, hq, e⟩ := List.mem_map.mp hq
    exact List.mem_map.mpr ⟨q, hsub q hq, e⟩
  · rcases hb q hq with h1 | h1
    · exact .inl h1
    · rcases kp.2 q h1 with h2 | h2
      · obtain ⟨x, hx, e⟩ := List.mem_map.mp h2
        exact .inl (List.mem_map.mpr ⟨x, hsub x hx, e⟩)
      · exact .inr h2
theorem rain_spec {many : Int} {tm : Tok} (G : Good w α ω ο δ μ σ st) (hm : 0 < many) (hl : st.cells.length ≤ 60) :
    Runs w 378 [.ref (α .gut), .int many tm] 20 200 (ledW α ο δ μ σ st) (PostW w α ω ο δ fun v μ' st' => (∃ r t, v = .int r t ∧ 0 ≤ r ∧ r < many) ∧ μ = μ' ∧ st' = st.setTurn (st.turn + 1)) := by
  obtain ⟨t, k, hg⟩ := G.sh .gut trivial
  obtain ⟨vs, ⟨kc, hc⟩, hi⟩ := G.sh .cells trivial
  have hne : @Ne Nat (α .gut) (α .cells) := fun e => absurd (G.inj .gut .cells trivial trivial e) (by decide)
  refine Runs.frame (rained_spec (turn := st.turn) (t := t) (k := k) (kc := kc) (tm := tm) hne hm hi hl) ?_ ?_
  · intro p hp
    simp only [List.mem_cons, List.not_mem_nil, or_false] at hp
    rcases hp with rfl | rfl
    · have := mem_led (β := adr α ο δ μ) (σ := σ) (n := st.n) (r := .gut) trivial
      rw [hg] at this; exact this
    · have := mem_led (β := adr α ο δ μ) (σ := σ) (n := st.n) (r := .cells) trivial
      rw [hc] at this; exact this
  · rintro h₀ h h' L v small' N kp N' ⟨r, t1, t2, k', rfl, h0, h1, rfl⟩
    refine ⟨led (adr α ο δ μ) (upd σ .gut (PySem.W.listOf #[.ref (α .cells), .int ((st.turn + 1 : Nat) : Int) t2] k')) st.n, ?_, ?_, ?_⟩
    · intro p hp
      obtain ⟨x, hx, rfl⟩ := of_led hp
      by_cases e : x = .gut
      · subst e; rw [upd_self]; exact N' _ (.head _)
      · rw [upd_ne _ _ e]
        have a := N _ (mem_led (β := adr α ο δ μ) (σ := σ) hx)
        by_cases e2 : x = .cells
        · subst e2; rw [hc]; exact N' _ (.tail _ (.head _))
        · refine ⟨kp.1 _ _ a.1 ?_, a.2⟩
          intro hq
          simp only [List.map_cons, List.map_nil, List.mem_cons, List.not_mem_nil, or_false] at hq
          rcases hq with hq | hq
          · exact e (G.inj x .gut hx trivial hq)
          · exact e2 (G.inj x .cells hx trivial hq)
    · intro p hp
      obtain ⟨x, hx, rfl⟩ := of_led hp
      exact .inl (List.mem_map.mpr ⟨_, mem_led hx, rfl⟩)
    · refine ⟨μ, _, st.setTurn (st.turn + 1), rfl, G.set rfl ⟨t2, k', rfl⟩ ?_, ⟨r, t1, rfl, h0, h1⟩, rfl, rfl⟩
      intro r' o hne hS; cases r' <;> first | exact hS | exact absurd rfl hne
end

section
open PySem PySem.W PySem.Calls PyProof.Rows
theorem numKV_stored_in (f : Nat → Addr) (i : Nat) (a : Addr) {l : List Nat} (h : i ∈ l) : stored (numKV f l) (i : Int) (.ref a) = numKV (fun j => if j = i then a else f j) l := by
  unfold stored
  have hany : ((numKV f l).any fun kv => decide (kv.1 = (i : Int))) = true := by
    rw [List.any_eq_true]
    exact ⟨((i : Int), .ref (f i)), List.mem_map.mpr ⟨i, h, rfl⟩, by simp⟩
  rw [if_pos hany]
  unfold numKV
  rw [List.map_map]
  refine List.map_congr_left fun j _ => ?_
  simp only [Function.comp]
  by_cases e : j = i
  · subst e; simp
  · have : ¬ ((j : Int) = (i : Int)) := by (first | lia | omega)
    simp [e, this]
section
variable {w : World} {A : Around} {E : Value → Shared → Prop} {s : Shared} {L : Addr} {h₀ h : Heap} {m : Str → Option Value} {news tmp : List (Addr × Obj)} {name : Str}
  {α : Role → Addr} {ω : Role → Obj} {ο δ : Nat → Addr} {μ : Role → Addr} {σ : Role → Obj} {st : St} {K : Frag} {value slice : PySem.Expr} {t : Tok}
theorem item_world {v : Value} {Q : Value → Shared → Prop} (G : Good w α ω ο δ μ σ st) (N : News h₀ L s.heap news) (hs : ∀ p ∈ ledW α ο δ μ σ st, p ∈ news) (hl : valueAt (worldKV α μ) name = some v) (h : Q v { s with toks := s.toks + 1 })
    (hs1 : subscripted slice false (.ref (α .world)) (.str name t) = operate [.ref (α .world), .str name t] (getItem (.ref (α .world)) (.str name t)) := by with_unfolding_all rfl) (hg : ∀ r, letTemporaryGo value (.ref (α .world)) r = pure () := by intro _; with_unfolding_all rfl) :
    wpAny (model PP w) A (subscriptTail value slice (.ref (α .world)) (.str name t)) Q E s :=
  kda_item (knd := sK w) N (hs _ (mem_led (β := adr α ο δ μ) (r := .world) trivial)) (G.sh .world trivial) (strKind_is _ _ _ _) hl h hs1 hg
theorem item_all {i : Nat} {Q : Value → Shared → Prop} (G : Good w α ω ο δ μ σ st) (N : News h₀ L s.heap news) (hs : ∀ p ∈ ledW α ο δ μ σ st, p ∈ news) (hi : st.ok i) (h : Q (.ref (ο i)) { s with toks := s.toks + 1 })
    (hs1 : subscripted slice false (.ref (α .all)) (.int (i : Int) t) = operate [.ref (α .all), .int (i : Int) t] (getItem (.ref (α .all)) (.int (i : Int) t)) := by with_unfolding_all rfl) (hg : ∀ r, letTemporaryGo value (.ref (α .all)) r = pure () := by intro _; with_unfolding_all rfl) :
    wpAny (model PP w) A (subscriptTail value slice (.ref (α .all)) (.int (i : Int) t)) Q E s :=
  kda_item (knd := iK w) N (hs _ (mem_led (β := adr α ο δ μ) (r := .all) trivial)) (G.sh .all trivial) (intKind_is _ _ _ _) (numKV_find ο _ i (mem_upTo.mpr hi)) h hs1 hg
theorem item_edges {i : Nat} {Q : Value → Shared → Prop} (G : Good w α ω ο δ μ σ st) (N : News h₀ L s.heap news) (hs : ∀ p ∈ ledW α ο δ μ σ st, p ∈ news) (hi : st.ok i) (h : Q (.ref (μ (.edge i))) { s with toks := s.toks + 1 })
    (hs1 : subscripted slice false (.ref (α .edges)) (.int (i : Int) t) = operate [.ref (α .edges), .int (i : Int) t] (getItem (.ref (α .edges)) (.int (i : Int) t)) := by with_unfolding_all rfl) (hg : ∀ r, letTemporaryGo value (.ref (α .edges)) r = pure () := by intro _; with_unfolding_all rfl) :
    wpAny (model PP w) A (subscriptTail value slice (.ref (α .edges)) (.int (i : Int) t)) Q E s :=
  kda_item (knd := iK w) N (hs _ (mem_led (β := adr α ο δ μ) (r := .edges) trivial)) (G.sh .edges trivial) (intKind_is _ _ _ _) (numKV_find _ _ i (mem_upTo.mpr ⟨hi.1, Nat.le_trans hi.2 (Nat.le_add_right _ _)⟩)) h hs1 hg
theorem item_sorts {i : Nat} {Q : Value → Shared → Prop} (G : Good w α ω ο δ μ σ st) (N : News h₀ L s.heap news) (hs : ∀ p ∈ ledW α ο δ μ σ st, p ∈ news) (hi : st.ok i) (h : ∀ u, Q (.int (st.sort i) u) { s with toks := s.toks + 1 })
    (hs1 : subscripted slice false (.ref (α .sorts)) (.int (i : Int) t) = operate [.ref (α .sorts), .int (i : Int) t] (getItem (.ref (α .sorts)) (.int (i : Int) t)) := by with_unfolding_all rfl) (hg : ∀ r, letTemporaryGo value (.ref (α .sorts)) r = pure () := by intro _; with_unfolding_all rfl) :
    wpAny (model PP w) A (subscriptTail value slice (.ref (α .sorts)) (.int (i : Int) t)) Q E s := by
  obtain ⟨kvs, hd, hk⟩ := G.sh .sorts trivial
  obtain ⟨u, hu⟩ := sortKV_find hk (i := i) (mem_upTo.mpr ⟨hi.1, Nat.le_trans hi.2 (Nat.le_add_right _ _)⟩)
  exact kda_item (knd := iK w) N (hs _ (mem_led (β := adr α ο δ μ) (r := .sorts) trivial)) hd (intKind_is _ _ _ _) hu (h u) hs1 hg
/-- an item of a list of numbers -/
theorem item_nums {D : Addr} {c : Nat} {vs : List Value} {R : List Nat} {r : Int} {Q : Value → Shared → Prop} (N : News h₀ L s.heap news) (hm : (D, PySem.W.listOf vs.toArray c) ∈ news) (hv : Nums vs R) (h0 : 0 ≤ r) (h1 : r < R.length) (hz : R.length ≤ 10000)
    (h : ∀ i u, i ∈ R → Q (.int ((i : Nat) : Int) u) s)
    (hs1 : subscripted slice false (.ref D) (.int r t) = operate [.ref D, .int r t] (getItem (.ref D) (.int r t)) := by with_unfolding_all rfl) (hg : ∀ r, letTemporaryGo value (.ref D) r = pure () := by intro _; with_unfolding_all rfl) :
    wpAny (model PP w) A (subscriptTail value slice (.ref D) (.int r t)) Q E s := by
  have hlen := hv.len
  have hlt : r.toNat < vs.length := by (first | lia | omega)
  obtain ⟨i, u, hi, e⟩ := hv.get (List.getElem?_eq_getElem hlt)
  refine kim_list N hm rfl rfl h0 (by (first | lia | omega)) ((List.getElem?_eq_getElem hlt).trans (congrArg some e)) ?_ hs1 hg
  exact h i u (List.mem_of_getElem? hi)
/-- «grey[len(grey) - 1]» -/
theorem item_grey_last {l : List Nat} {i : Nat} {k : Int} {Q : Value → Shared → Prop} (G : Good w α ω ο δ μ σ st) (N : News h₀ L s.heap news) (hs : ∀ p ∈ ledW α ο δ μ σ st, p ∈ news) (hgr : st.grey = l ++ [i]) (hk : k = (st.grey.length : Int) - 1) (hz : st.grey.length ≤ 10000) (h : Q (.ref (ο i)) s)
    (hs1 : subscripted slice false (.ref (μ .grey)) (.int k t) = operate [.ref (μ .grey), .int k t] (getItem (.ref (μ .grey)) (.int k t)) := by with_unfolding_all rfl) (hg : ∀ r, letTemporaryGo value (.ref (μ .grey)) r = pure () := by intro _; with_unfolding_all rfl) :
    wpAny (model PP w) A (subscriptTail value slice (.ref (μ .grey)) (.int k t)) Q E s := by
  obtain ⟨kk, e⟩ := G.loGrey
  have hm := hs _ (mem_led (β := adr α ο δ μ) (σ := σ) (n := st.n) (r := .grey) trivial)
  rw [e] at hm
  have hl : st.grey.length = l.length + 1 := by rw [hgr]; simp
  have hkl : k.toNat = l.length := by (first | lia | omega)
  refine kim_list N hm rfl rfl (by (first | lia | omega)) (by (first | lia | omega)) ?_ h hs1 hg
  rw [hkl, hgr]
  simp [refs]
/-- «edges[one].append(other)» -/
theorem app_edge {i c : Nat} {u : Tok} {Q : Value → Shared → Prop} (F : Fr h₀ L s.heap m) (N : News h₀ L s.heap (tmp ++ ledW α ο δ μ σ st)) (off : Off tmp (ledW α ο δ μ σ st)) (G : Good w α ω ο δ μ σ st) (hi : st.ok i) (hz : (st.edges i).length ≤ 10000)
    (h : ∀ h' σ', Fr h₀ L h' m → News h₀ L h' (tmp ++ ledW α ο δ μ σ' (st.setEdge i (st.edges i ++ [c]))) → Off tmp (ledW α ο δ μ σ' (st.setEdge i (st.edges i ++ [c]))) → Good w α ω ο δ μ σ' (st.setEdge i (st.edges i ++ [c])) → Q .none { s with heap := h' }) :
    wpAny (model PP w) A (call (.builtin "list.append") [.ref (μ (.edge i)), .int (c : Int) u]) Q E s := by
  obtain ⟨vs, hL, hN⟩ := G.sh (.edge i) hi
  refine append_listW (.edge i) F N off G hi hL (by rw [hN.len]; exact hz) fun h' o' F' N' hL' => h h' _ F' N' off.upd (G.set rfl ⟨_, hL', ?_⟩ ?_)
  · show Nums _ (if i = i then _ else _)
    rw [if_pos rfl]
    exact hN.app (.cons c u .nil)
  · intro r' o hne hS
    cases r' <;> first | exact hS | skip
    rename_i j
    have hji : j ≠ i := fun e => hne (by rw [e])
    show ∃ vs, _ ∧ Nums vs (if j = i then _ else st.edges j)
    rw [if_neg hji]; exact hS
/-- «world['edges'][one] = a new list» -/
theorem set_edges {i : Nat} {l : Addr} {k : Nat} {vs : List Value} {ns : List Nat} {u : Tok} {Q : Unit → Shared → Prop} (F : Fr h₀ L s.heap m) (N : News h₀ L s.heap ((l, PySem.W.listOf vs.toArray k) :: ledW α ο δ μ σ st)) (hlt : ∀ p ∈ ledW α ο δ μ σ st, p.1 < l) (G : Good w α ω ο δ μ σ st) (hi : st.ok i) (hn : st.n ≤ 1000) (hpe : st.pe ≤ 1000) (hN : Nums vs ns)
    (h : ∀ h' σ', Fr h₀ L h' m → News h₀ L h' (ledW α ο δ (upd μ (.edge i) l) σ' (st.setEdge i ns)) → Good w α ω ο δ (upd μ (.edge i) l) σ' (st.setEdge i ns) → Q () { s with heap := h', toks := s.toks + 1 }) :
    wpAny (model PP w) A (setItem (.ref (α .edges)) (.int (i : Int) u) (.ref l)) Q E s := by
  have hlt' : ∀ x, Role.ok st.n x → adr α ο δ μ x < l := fun x hx => hlt _ (mem_led hx)
  have hd := G.sh .edges trivial
  refine kda_set (knd := iK w) F N (updF_tmp (tmp := [(l, PySem.W.listOf vs.toArray k)]) ((off_new hlt).ne (r := .edges) trivial) (led_updF G.inj (r := .edges) trivial)) hd (intKind_is _ _ _ _) (by rw [numKV_len, upTo_len, sizeLine_eq]; (first | lia | omega)) fun h' o' F' N' hd' => ?_
  rw [numKV_stored_in _ _ _ (mem_upTo.mpr ⟨hi.1, Nat.le_trans hi.2 (Nat.le_add_right _ _)⟩)] at hd'
  have e1 : (fun j => if j = i then l else μ (.edge j)) = fun j => upd μ (.edge i) l (.edge j) := by
    funext j
    by_cases e : j = i
    · subst e; simp
    · rw [if_neg e, upd_ne _ _ (fun q => e (Role.edge.inj q))]
  rw [e1] at hd'
  have hl := off_new hlt (lo := PySem.W.listOf vs.toArray k)
  refine h h' (upd (upd σ .edges o') (.edge i) (PySem.W.listOf vs.toArray k)) F' (News.sub N' ?_) (G.move rfl (adr_edge i l) hlt' (by intro e; cases e) ⟨vs, ⟨k, rfl⟩, ?_⟩ hd' ?_)
  · show ∀ p ∈ led (adr α ο δ (upd μ (.edge i) l)) _ st.n, _
    rw [adr_edge]; exact led_move
  · show Nums vs (if i = i then ns else _)
    rw [if_pos rfl]; exact hN
  · intro x o h1 h2 hS
    cases x <;> first | exact hS | exact absurd rfl h2 | skip
    rename_i j
    have hji : j ≠ i := fun e => h1 (by rw [e])
    show ∃ vs, _ ∧ Nums vs (if j = i then _ else st.edges j)
    rw [if_neg hji]; exact hS
/-- «world['freed'] = a new list» -/
theorem set_freed {l : Addr} {k : Nat} {vs : List Value} {ns : List Nat} {u : Tok} {Q : Unit → Shared → Prop} (F : Fr h₀ L s.heap m) (N : News h₀ L s.heap ((l, PySem.W.listOf vs.toArray k) :: ledW α ο δ μ σ st)) (hlt : ∀ p ∈ ledW α ο δ μ σ st, p.1 < l) (G : Good w α ω ο δ μ σ st) (hN : Nums vs ns)
    (h : ∀ h' σ', Fr h₀ L h' m → News h₀ L h' (ledW α ο δ (upd μ .freed l) σ' (st.setFreed ns)) → Good w α ω ο δ (upd μ .freed l) σ' (st.setFreed ns) → Q () { s with heap := h', toks := s.toks + 1 }) :
    wpAny (model PP w) A (setItem (.ref (α .world)) (.str "freed" u) (.ref l)) Q E s := by
  have hlt' : ∀ x, Role.ok st.n x → adr α ο δ μ x < l := fun x hx => hlt _ (mem_led hx)
  have hd := G.sh .world trivial
  refine kda_set (knd := sK w) F N (updF_tmp (tmp := [(l, PySem.W.listOf vs.toArray k)]) ((off_new hlt).ne (r := .world) trivial) (led_updF G.inj (r := .world) trivial)) hd (strKind_is _ _ _ _) (by rw [sizeLine_eq]; exact Nat.le_of_ble_eq_true rfl) fun h' o' F' N' hd' => ?_
  have e1 : stored (worldKV α μ) (Str.ofString "freed") (.ref l) = worldKV α (upd μ .freed l) := rfl
  rw [e1] at hd'
  refine h h' (upd (upd σ .world o') .freed (PySem.W.listOf vs.toArray k)) F' (News.sub N' ?_) (G.move rfl (adr_freed l) hlt' (by decide) ⟨vs, ⟨k, rfl⟩, hN⟩ hd' (fun x o h1 h2 hS => by cases x <;> first | exact hS | exact absurd rfl h1 | exact absurd rfl h2))
  show ∀ p ∈ led (adr α ο δ (upd μ .freed l)) _ st.n, _
  rw [adr_freed]; exact led_move
end
end

section
open PySem PySem.W PySem.Calls PyProof.Rows
theorem upd_mid {D : Addr} {o o' : Obj} {pre post : List (Addr × Obj)} (h1 : ∀ q ∈ pre, q.1 ≠ D) (h2 : ∀ q ∈ post, q.1 ≠ D) : Upd D o o' (pre ++ (D, o) :: post) (pre ++ (D, o') :: post) := upd_tmp h1 (Upd.head h2)
theorem mid_mem {pre post : List (Addr × Obj)} {p : Addr × Obj} : p ∈ pre ++ p :: post := List.mem_append_right _ (.head _)
theorem map_cast_inj {a b : List Nat} : (a.map fun (i : Nat) => (i : Int)) = (b.map fun (i : Nat) => (i : Int)) ↔ a = b := by
  refine ⟨fun h => ?_, fun h => h ▸ rfl⟩
  exact (List.map_inj_right (fun x y hxy => Int.ofNat_inj.mp hxy)).mp h
theorem nums_of_perm {ns : List Int} {R : List Nat} (h : ns.Perm (R.map fun (i : Nat) => (i : Int))) : ∃ R' : List Nat, ns = R'.map (fun (i : Nat) => (i : Int)) ∧ R'.Perm R := by
  have hall : ∀ x ∈ ns, 0 ≤ x := fun x hx => by
    obtain ⟨i, _, rfl⟩ := List.mem_map.mp (h.mem_iff.mp hx)
    exact Int.natCast_nonneg i
  have e : ns = (ns.map Int.toNat).map (fun (i : Nat) => (i : Int)) := by
    rw [List.map_map]
    conv => lhs; rw [← List.map_id ns]
    refine List.map_congr_left fun x hx => ?_
    simp only [Function.comp, id]
    exact (Int.toNat_of_nonneg (hall x hx)).symm
  refine ⟨ns.map Int.toNat, e, ?_⟩
  have := h.map Int.toNat
  rw [List.map_map] at this
  have e2 : (Int.toNat ∘ fun (i : Nat) => (i : Int)) = id := by funext i; simp
  rw [e2, List.map_id] at this
  exact this
section
variable {w : World} {A : Around} {E : Value → Shared → Prop} {s : Shared} {L D : Addr} {h₀ h : Heap} {m : Str → Option Value} {news pre post : List (Addr × Obj)} {vs us : List Value} {R S : List Nat} {k kb i : Nat} {t : Tok}
theorem tl_pop {Q : Value → Shared → Prop} (F : Fr h₀ L s.heap m) (N : News h₀ L s.heap (pre ++ (D, PySem.W.listOf vs.toArray k) :: post)) (h1 : ∀ q ∈ pre, q.1 ≠ D) (h2 : ∀ q ∈ post, q.1 ≠ D) (hv : Nums vs (R ++ [i])) (hz : R.length ≤ 10000)
    (h : ∀ h' vs' t, Fr h₀ L h' m → News h₀ L h' (pre ++ (D, PySem.W.listOf vs'.toArray (k + 1)) :: post) → Nums vs' R → Q (.int (i : Int) t) { s with heap := h' }) : wpAny (model PP w) A (call (.builtin "list.pop") [.ref D]) Q E s := by
  obtain ⟨vs', t, rfl, hv'⟩ := hv.snoc
  have := hv'.len
  exact kl_pop F N (by rw [List.toList_toArray]; exact kpa_last _ vs') (upd_mid h1 h2) (by rw [List.toList_toArray, List.length_append, sizeLine_eq, List.length_singleton]; (first | lia | omega)) fun h' F' N' => h h' vs' t F' N' hv'
theorem tl_append {x : Value} {Q : Value → Shared → Prop} (F : Fr h₀ L s.heap m) (N : News h₀ L s.heap (pre ++ (D, PySem.W.listOf vs.toArray k) :: post)) (h1 : ∀ q ∈ pre, q.1 ≠ D) (h2 : ∀ q ∈ post, q.1 ≠ D) (hz : vs.length ≤ 10000)
    (h : ∀ h', Fr h₀ L h' m → News h₀ L h' (pre ++ (D, PySem.W.listOf (vs ++ [x]).toArray (k + 1)) :: post) → Q .none { s with heap := h' }) : wpAny (model PP w) A (call (.builtin "list.append") [.ref D, x]) Q E s := by
  refine append_K F N (upd_mid h1 h2) (fun h' F' N' => h h' F' ?_) (by rw [List.size_toArray, sizeLine_eq]; (first | lia | omega))
  rw [List.push_toArray] at N'; exact N'
theorem tl_extend {b : Addr} {Q : Value → Shared → Prop} (F : Fr h₀ L s.heap m) (N : News h₀ L s.heap (pre ++ (D, PySem.W.listOf vs.toArray k) :: post)) (hb : (b, PySem.W.listOf us.toArray kb) ∈ pre ++ (D, PySem.W.listOf vs.toArray k) :: post) (h1 : ∀ q ∈ pre, q.1 ≠ D) (h2 : ∀ q ∈ post, q.1 ≠ D) (hz : vs.length ≤ 10000) (hz2 : us.length ≤ 10000)
    (h : ∀ h' k', Fr h₀ L h' m → News h₀ L h' (pre ++ (D, PySem.W.listOf (vs ++ us).toArray k') :: post) → Q .none { s with heap := h' }) : wpAny (model PP w) A (call (.builtin "list.extend") [.ref D, .ref b]) Q E s := by
  have hlong : ¬ (!vs.toArray.isEmpty && Builtin.List.listTooLong (vs.toArray.size + us.toArray.size)) = true := by
    have e : Builtin.List.listTooLong (vs.toArray.size + us.toArray.size) = false := by
      unfold Builtin.List.listTooLong
      rw [List.size_toArray, List.size_toArray, sizeLine_eq]
      exact decide_eq_false (by (first | lia | omega))
    rw [e]; simp
  by_cases hu : us = []
  · subst hu
    exact kxn_extend F N hb rfl (upd_mid h1 h2) hlong (by rw [List.toList_toArray, sizeLine_eq]; (first | lia | omega)) (by rw [List.size_toArray, List.size_toArray, sizeLine_eq]; simp; (first | lia | omega)) fun h' F' N' => h h' k F' (by rw [List.append_nil]; exact N')
  · exact kl_extend F N hb rfl (by rw [List.toList_toArray]; exact fun e => hu (List.length_eq_zero_iff.mp e)) (upd_mid h1 h2) hlong (by rw [List.toList_toArray, sizeLine_eq]; (first | lia | omega)) (by rw [List.size_toArray, List.size_toArray, sizeLine_eq]; (first | lia | omega)) fun h' F' N' => h h' (k + 1) F' (by simpa using N')
theorem tl_list (N : News h₀ L s.heap news) (hm : (D, PySem.W.listOf vs.toArray k) ∈ news) : s.heap.IsList D vs.toArray := ⟨_, (N _ hm).1, rfl, k, rfl⟩
theorem sorted_nums {Q : Value → Shared → Prop} (F : Fr h₀ L s.heap m) (N : News h₀ L s.heap news) (hm : (D, PySem.W.listOf vs.toArray k) ∈ news) (hv : Nums vs R) (hz : R.length < 64)
    (h : ∀ D' vs' R' c h', Fr h₀ L h' m → News h₀ L h' ((D', PySem.W.listOf vs'.toArray c) :: news) → (∀ q ∈ news, q.1 < D') → Nums vs' R' → R'.Perm R → R'.Pairwise (· ≤ ·) → Q (.ref D') { s with heap := h' }) :
    wpAny (model PP w) A (call (.builtin "sorted") [.ref D]) Q E s := by
  refine kso_sorted F N (tl_list N hm) hv.ints (by rw [List.length_map]; exact hz) fun D' vs' ns' c h' F' N' l1 hi' _ hp ho _ => ?_
  obtain ⟨R', rfl, hR⟩ := nums_of_perm hp
  refine h D' vs' R' c h' F' N' l1 (Nums.ofInts hi') hR ?_
  rw [List.pairwise_map] at ho
  exact ho.imp fun h => Int.ofNat_le.mp h
theorem eq_nums {b : Addr} {Q : Value → Shared → Prop} (N : News h₀ L s.heap news) (hm : (D, PySem.W.listOf vs.toArray k) ∈ news) (hb : (b, PySem.W.listOf us.toArray kb) ∈ news) (hv : Nums vs R) (hu : Nums us S) (hc : A.units + 64 < cLine) (x : Bool) (hx : x = decide (R = S)) (h : Q (.bool x) s) :
    wpAny (model PP w) A (compareOp .Eq (.ref D) (.ref b)) Q E s := by
  refine ke_eq_ints (tl_list N hm) (tl_list N hb) hv.ints hu.ints hc ?_
  rw [show decide ((R.map fun (i : Nat) => (i : Int)) = (S.map fun (i : Nat) => (i : Int))) = x from by rw [hx]; exact decide_eq_decide.mpr map_cast_inj]
  exact h
theorem ne_nums {b : Addr} {Q : Value → Shared → Prop} (N : News h₀ L s.heap news) (hm : (D, PySem.W.listOf vs.toArray k) ∈ news) (hb : (b, PySem.W.listOf us.toArray kb) ∈ news) (hv : Nums vs R) (hu : Nums us S) (hc : A.units + 64 < cLine) (x : Bool) (hx : x = decide (R ≠ S)) (h : Q (.bool x) s) :
    wpAny (model PP w) A (compareOp .NotEq (.ref D) (.ref b)) Q E s := by
  refine ke_ne_ints (tl_list N hm) (tl_list N hb) hv.ints hu.ints hc ?_
  have e : (!decide ((R.map fun (i : Nat) => (i : Int)) = (S.map fun (i : Nat) => (i : Int)))) = x := by
    rw [hx]
    by_cases e : R = S
    · subst e; simp
    · simp [e, map_cast_inj]
  rw [e]; exact h
theorem notin_nums {Q : Value → Shared → Prop} (N : News h₀ L s.heap news) (hm : (D, PySem.W.listOf vs.toArray k) ∈ news) (hv : Nums vs R) (x : Bool) (hx : x = decide (i ∉ R)) (h : Q (.bool x) s) :
    wpAny (model PP w) A (compareOp .NotIn (.int (i : Int) t) (.ref D)) Q E s := by
  refine notin_list_ints (tl_list N hm) hv.ints ?_
  have e : ((R.map fun (i : Nat) => (i : Int)).any (· == (i : Int))) = decide (i ∈ R) := by
    rw [List.any_map]
    by_cases hi : i ∈ R
    · rw [decide_eq_true hi, List.any_eq_true]
      exact ⟨i, hi, by simp⟩
    · rw [decide_eq_false hi, List.any_eq_false]
      intro j hj
      have : j ≠ i := fun e => hi (e ▸ hj)
      have h2 : ¬ ((j : Int) = (i : Int)) := by (first | lia | omega)
      simp [Function.comp, h2]
  rw [e]
  have : (!decide (i ∈ R)) = x := by rw [hx]; by_cases hi : i ∈ R <;> simp [hi]
  rw [this]; exact h
end
end

section
open PySem PySem.W PySem.Calls PyProof.Rows
end

section
open PySem PySem.W PySem.Calls PyProof.Rows
variable {w : World} {α : Role → Addr} {ω : Role → Obj} {ο δ : Nat → Addr} {μ : Role → Addr} {σ : Role → Obj} {st : St}
/-- what is reached -/
inductive Reach (E : Nat → List Nat) : Nat → Prop
  | root : Reach E 1
  | edge {i c : Nat} : Reach E i → c ∈ E i → Reach E c
/-- the loop of «_law_reached» -/
structure RInv (st : St) (F W : List Nat) : Prop where
  nd : F.Nodup
  okF : ∀ x ∈ F, st.ok x
  okW : ∀ x ∈ W, st.ok x
  rF : ∀ x ∈ F, Reach st.edges x
  rW : ∀ x ∈ W, Reach st.edges x
  cl : ∀ x ∈ F, ∀ c ∈ st.edges x, c ∈ F ∨ c ∈ W
  root : 1 ∈ F ∨ 1 ∈ W
theorem said_25 : True := by
  k_with "subscriptTail" => ((k_here; k_dflt ((with_reducible refine' item_world ?zqG ?zqN ?zqs ?zqr1 ?_); (k_extra "m_s"))))
  k_with "subscriptTail" => ((k_here; k_dflt ((with_reducible refine' item_all ?zqG ?zqN ?zqs ?zqok ?_); (k_extra "m_s"))))
  k_with "subscriptTail" => ((k_here; k_dflt ((with_reducible refine' item_edges ?zqG ?zqN ?zqs ?zqok ?_); (k_extra "m_s"))))
  k_with "subscriptTail" => ((k_here; k_dflt ((with_reducible refine' item_sorts ?zqG ?zqN ?zqs ?zqok ?_); (k_extra "m_s"); intro _)))
  trivial
theorem len_of_sub : ∀ {F L : List Nat}, F.Nodup → (∀ x ∈ F, x ∈ L) → F.length ≤ L.length
  | [], _, _, _ => Nat.zero_le _
  | a :: F, L, nd, h => by
    have nd' := List.nodup_cons.mp nd
    have h1 := len_of_sub (L := L.erase a) nd'.2 fun x hx => (List.mem_erase_of_ne (fun e : x = a => nd'.1 (by rw [← e]; exact hx))).mpr (h x (.tail _ hx))
    have h2 := h a (.head _)
    rw [List.length_erase_of_mem h2] at h1
    have h3 := List.length_pos_of_mem h2
    rw [List.length_cons]; omega
theorem allLt_mem {d : Addr} : ∀ {l : List (Addr × Obj)}, AllLt d l → ∀ p ∈ l, p.1 < d
  | [], _, _, h => nomatch h
  | q :: r, x, p, h => by
    rcases List.mem_cons.mp h with rfl | h
    · exact x.1
    · exact allLt_mem x.2 p h
theorem drop2 {x y z : Addr × Obj} {l : List (Addr × Obj)} : ∀ p ∈ x :: l, p ∈ x :: y :: z :: l := fun p hp => by
  rcases List.mem_cons.mp hp with rfl | hp
  · exact .head _
  · exact .tail _ (.tail _ (.tail _ hp))
theorem RInv.flen {st : St} {F W : List Nat} (h : RInv st F W) : F.length ≤ st.n := by
  have hsub : F ⊆ upTo st.n := fun x hx => mem_upTo.mpr (h.okF x hx)
  have := len_of_sub h.nd hsub
  rwa [upTo_len] at this
theorem RInv.skip {st : St} {F W : List Nat} {i : Nat} (h : RInv st F (W ++ [i])) (hi : i ∈ F) : RInv st F W where
  nd := h.nd
  okF := h.okF
  okW := fun x hx => h.okW x (List.mem_append_left _ hx)
  rF := h.rF
  rW := fun x hx => h.rW x (List.mem_append_left _ hx)
  cl := fun x hx c hc => by
    rcases h.cl x hx c hc with h1 | h1
    · exact .inl h1
    · rcases List.mem_append.mp h1 with h2 | h2
      · exact .inr h2
      · rw [List.mem_singleton.mp h2]; exact .inl hi
  root := by
    rcases h.root with h1 | h1
    · exact .inl h1
    · rcases List.mem_append.mp h1 with h2 | h2
      · exact .inr h2
      · rw [List.mem_singleton.mp h2]; exact .inl hi
theorem RInv.take {st : St} {F W : List Nat} {i : Nat} (hw : Wf st) (h : RInv st F (W ++ [i])) (hi : i ∉ F) : RInv st (F ++ [i]) (W ++ st.edges i) where
  nd := by
    rw [List.nodup_append]
    exact ⟨h.nd, by simp, fun a ha b hb e => hi (by rw [List.mem_singleton.mp hb] at e; exact e ▸ ha)⟩
  okF := fun x hx => by
    rcases List.mem_append.mp hx with h1 | h1
    · exact h.okF x h1
    · rw [List.mem_singleton.mp h1]; exact h.okW i (by simp)
  okW := fun x hx => by
    rcases List.mem_append.mp hx with h1 | h1
    · exact h.okW x (List.mem_append_left _ h1)
    · exact hw.edge i (h.okW i (by simp)) x h1
  rF := fun x hx => by
    rcases List.mem_append.mp hx with h1 | h1
    · exact h.rF x h1
    · rw [List.mem_singleton.mp h1]; exact h.rW i (by simp)
  rW := fun x hx => by
    rcases List.mem_append.mp hx with h1 | h1
    · exact h.rW x (List.mem_append_left _ h1)
    · exact .edge (h.rW i (by simp)) h1
  cl := fun x hx c hc => by
    rcases List.mem_append.mp hx with h1 | h1
    · rcases h.cl x h1 c hc with h2 | h2
      · exact .inl (List.mem_append_left _ h2)
      · rcases List.mem_append.mp h2 with h3 | h3
        · exact .inr (List.mem_append_left _ h3)
        · exact .inl (List.mem_append_right _ h3)
    · rw [List.mem_singleton.mp h1] at hc
      exact .inr (List.mem_append_right _ hc)
  root := by
    rcases h.root with h1 | h1
    · exact .inl (List.mem_append_left _ h1)
    · rcases List.mem_append.mp h1 with h2 | h2
      · exact .inr (List.mem_append_left _ h2)
      · exact .inl (List.mem_append_right _ h2)
theorem RInv.all {st : St} {F : List Nat} (h : RInv st F []) (i : Nat) : i ∈ F ↔ Reach st.edges i := by
  refine ⟨h.rF i, fun hr => ?_⟩
  induction hr with
  | root => rcases h.root with h1 | h1; exact h1; cases h1
  | edge _ hc ih => rcases h.cl _ ih _ hc with h1 | h1; exact h1; cases h1
theorem wait_few {n w k : Nat} (h : w + 1 + k ≤ 1 + 101 * n) (hn : n ≤ 15) : w ≤ 2000 := by omega
theorem few_of {n f m : Nat} (e : f = m) (h : m ≤ n) (hn : n ≤ 15) : f ≤ 10000 := by omega
theorem wait_less {w e f n : Nat} (he : e ≤ 100) (hf : f + 1 ≤ n) : w + e + 101 * (n - (f + 1)) < w + 1 + 101 * (n - f) := by
  obtain ⟨d, rfl⟩ := Nat.le.dest hf
  rw [Nat.add_sub_cancel_left, Nat.add_assoc f 1 d, Nat.add_sub_cancel_left]
  omega
section
theorem said_26 : True := by
  k_with "compareOp NotEq ref ref" => ((fail_if_success k_extra "m_off5"); (k_here; k_dflt ((rename News _ _ _ _ => N9); (refine ne_nums N9 (by k_mem) (by k_mem) (by assumption) Nums.nil (by (k_extra "m_units")) _ (by assumption) ?_); (replace N9 := News.sub N9 (fun p hp => List.Mem.tail _ hp)))))
  k_with "call builtin:list.pop" => ((fail_if_success k_extra "m_off5"); (k_here; k_dflt (refine' tl_pop (pre := []) ?zqF ?zqN ?zqh1 ?zqh2 ?zqhv ?zqhz ?_; (case zqF => k_asm); (case zqN => k_asm); (case zqh1 => exact fun _ h => nomatch h); (case zqh2 => (first | (rename (∀ o : Obj, ∀ q ∈ (_, o) :: _, _) => hB9; exact hB9 _) | assumption)); (case zqhv => assumption); (case zqhz => (first | assumption | omega)); k_whole; intro h' vs' t' F' N' hv'; (try dsimp only [List.nil_append] at N'); (try k_sweep))))
  k_with "compareOp NotIn int ref" => ((fail_if_success k_extra "m_off5"); (k_here; k_dflt (refine' notin_nums ?zqN ?zqk1 ?zqa1 _ ?zqa2 ?_; (k_extra "m_s"))))
  k_with "call builtin:list.append" => ((fail_if_success k_extra "m_off5"); (k_here; k_dflt (refine' tl_append (pre := [_]) ?zqF ?zqN ?zqh1 ?zqh2 ?zqhz ?_; (case zqF => k_asm); (case zqN => k_asm); (case zqh1 => (rename (∀ o : Obj, ∀ q ∈ [(_, o)], _) => hB9; exact hB9 _)); (case zqh2 => assumption); (case zqhz => (first | assumption | omega)); k_whole; intro h' F' N'; (try dsimp only [List.cons_append, List.nil_append] at N'); (try k_sweep))))
  k_with "call builtin:list.extend" => ((fail_if_success k_extra "m_off5"); (k_here; k_dflt (refine' tl_extend (pre := []) ?zqF ?zqN ?zqhb ?zqh1 ?zqh2 ?zqhz ?zqhz2 ?_; (case zqF => k_asm); (case zqN => k_asm); (case zqhb => exact List.Mem.tail _ (List.Mem.tail _ (by assumption))); (case zqh1 => exact fun _ h => nomatch h); (case zqh2 => (rename (∀ o : Obj, ∀ q ∈ (_, o) :: _, _) => hB9; exact hB9 _)); (case zqhz => (rename Nums _ _ => hN9; have hN8 := Nums.len hN9; omega)); (case zqhz2 => omega); k_whole; intro h' k' F' N'; (try dsimp only [List.nil_append] at N'); (try k_sweep))))
  k_with "call builtin:sorted" => ((fail_if_success k_extra "m_off5"); (k_here; k_dflt (refine' sorted_nums ?zqF ?zqN ?zqk1 ?zqa1 ?zqz1 ?_; (k_extra "m_sk"))))
  trivial
/-- «_law_reached» -/
theorem reached_spec (G : Good w α ω ο δ μ σ st) (hw : Wf st) (h1 : 1 ≤ st.n) :
    Runs w 392 [.ref (α .world)] 100 400 (ledW α ο δ μ σ st) (fun v news' => ∃ D vs R c, v = .ref D ∧ news' = (D, PySem.W.listOf vs.toArray c) :: ledW α ο δ μ σ st ∧ Off [(D, PySem.W.listOf vs.toArray c)] (ledW α ο δ μ σ st) ∧
      Nums vs R ∧ R.Nodup ∧ R.Pairwise (· ≤ ·) ∧ ∀ i, i ∈ R ↔ Reach st.edges i) := by
  have hsm := hw.small
  (k_extra "m_enter")
  k_steps
  unfold Hold
  (try k_fold)
  rename_i a _ la b _ lb D _ lD _ _ _ F1 N1
  have hA : ∀ q ∈ ledW α ο δ μ σ st, q.1 ≠ a := fun q hq => Nat.ne_of_lt (la q hq)
  have hB : ∀ q ∈ ledW α ο δ μ σ st, q.1 ≠ b := fun q hq => Nat.ne_of_lt (allLt_mem lb.2 q hq)
  have hab : a ≠ b := Nat.ne_of_lt lb.1
  have hA1 : ∀ o : Obj, ∀ q ∈ [(b, o)], q.1 ≠ a := fun o q hq e => hab (by rw [List.mem_singleton.mp hq] at e; exact e.symm)
  have hB2 : ∀ o : Obj, ∀ q ∈ (a, o) :: ledW α ο δ μ σ st, q.1 ≠ b := fun o => List.forall_mem_cons.mpr ⟨hab, hB⟩
  replace N1 := News.sub N1 (fun p hp => List.Mem.tail _ hp)
  refine while_W (n₀ := 1 + 101 * st.n) (fun n m' nw => ∀ C : Prop, (∀ (u : Option Value) (fs ws : List Value) (F W : List Nat) (ka kb : Nat), m' = (fun y => if y = Str.ofString "here" then u else if y = Str.ofString "found" then some (.ref a) else if y = Str.ofString "waiting" then some (.ref b) else if y = Str.ofString "world" then some (.ref (α .world)) else none)
    → nw = (b, PySem.W.listOf (List.toArray ws) kb) :: (a, PySem.W.listOf (List.toArray fs) ka) :: ledW α ο δ μ σ st → Nums ws W → Nums fs F → RInv st F W → n = W.length + 101 * (st.n - F.length) → n ≤ 1 + 101 * st.n → C) → C) F1 N1 ?_ ?_
  · refine fun C c => c none [] [_] [] [1] _ _ ?_ rfl (.cons 1 _ .nil) .nil ⟨by simp, by simp, ?_, by simp, ?_, by simp, by simp⟩ rfl (by simp)
    · funext y
      by_cases h : y = Str.ofString "here"
      · subst h; simp only [strEq, String.reduceEq, ↓reduceIte]
      · simp only [h, ↓reduceIte]
    · intro x hx; rw [List.mem_singleton.mp hx]; exact ⟨Nat.le_refl _, h1⟩
    · intro x hx; rw [List.mem_singleton.mp hx]; exact .root
  · clear F1 N1
    intro n m₁ nw h1 tk1 F2 N2 hJ0
    (try dsimp only)
    (try k_fold)
    refine hJ0 _ ?_
    clear hJ0
    rintro u fs ws F W ka kb rfl rfl hws hfs hI rfl hn
    have hfl := hI.flen
    have hfv := hfs.len
    have hwv := hws.len
    cases hgl : W.getLast? with
    | none =>
      have hnil : W = [] := List.getLast?_eq_none_iff.mp hgl
      subst hnil
      have hne : false = decide (([] : List Nat) ≠ []) := by simp
      k_steps
      (try dsimp only)
      rename News _ _ _ _ => N5
      rename Nums _ _ => hN5
      rename List.Perm _ _ => hp5
      rename List.Pairwise _ _ => ho5
      rename (∀ q ∈ _ :: _ :: ledW α ο δ μ σ st, _) => l5
      replace N5 := News.sub N5 drop2
      exact Done.intro (by k_asm) N5 ⟨_, _, _, _, rfl, rfl, off_new (fun q hq => l5 q (.tail _ (.tail _ hq))), hN5, hp5.symm.nodup hI.nd, ho5, fun i => hp5.mem_iff.trans (hI.all i)⟩
    | some i =>
      have hg := last_split hgl
      generalize W.dropLast = W' at hg
      subst hg
      have hne : true = decide ((W' ++ [i]) ≠ []) := by simp
      have hok : st.ok i := hI.okW i (by simp)
      rw [List.length_append, List.length_singleton] at hn hwv
      have hWl : W'.length ≤ 2000 := wait_few hn hsm
      have hfz : fs.length ≤ 10000 := few_of hfv hfl hsm
      have hwz : ws.length ≤ 10000 := hwv ▸ Nat.le_trans (Nat.succ_le_succ hWl) (by decide)
      obtain ⟨us, ⟨ke, hLe⟩, hNe⟩ := G.sh (.edge i) hok
      have hme : (μ (.edge i), PySem.W.listOf us.toArray ke) ∈ ledW α ο δ μ σ st := by
        have := mem_led (β := adr α ο δ μ) (σ := σ) (n := st.n) (r := .edge i) hok
        rw [hLe] at this; exact this
      have hel := hw.elen i hok
      have huv := hNe.len
      by_cases hF : i ∈ F
      · have hin : false = decide (i ∉ F) := by simp [hF]
        k_steps
        rename Fr _ _ _ _ => F5
        rename News _ _ _ _ => N5
        rename Nums _ W' => hN5
        rw [if_ii] at F5
        exact ⟨_, _, _, _, _, rfl, F5, N5, (by rw [List.length_append, List.length_singleton]; exact Nat.add_lt_add_right (Nat.lt_succ_self _) _), fun C c => c _ _ _ F W' _ _ rfl rfl hN5 hfs (hI.skip hF) rfl (Nat.le_trans (Nat.add_le_add_right (Nat.le_succ _) _) hn)⟩
      · have hin : true = decide (i ∉ F) := by simp [hF]
        k_steps
        rename Fr _ _ _ _ => F5
        rename News _ _ _ _ => N5
        rename Nums _ W' => hN5
        rw [if_ii] at F5
        have hI2 := hI.take hw hF
        have hfl2 := hI2.flen
        rw [List.length_append, List.length_singleton] at hfl2
        have hm2 : (W' ++ st.edges i).length + 101 * (st.n - (F ++ [i]).length) < W'.length + 1 + 101 * (st.n - F.length) := by
          rw [List.length_append, List.length_append, List.length_singleton]; exact wait_less hel hfl2
        exact ⟨_, _, _, _, _, rfl, F5, N5, (by rw [List.length_append (as := W') (bs := [i]), List.length_singleton]; exact hm2), fun C c => c _ _ _ (F ++ [i]) (W' ++ st.edges i) _ _ rfl rfl (hN5.app hNe) (hfs.app (.cons i _ .nil)) hI2 rfl (Nat.le_trans (Nat.le_of_lt hm2) hn)⟩
end
section
variable {w : World} {α : Role → Addr} {ω : Role → Obj} {A1 : Heap → Prop} {A2 A3 : Heap → List (Addr × Obj) → Prop} {C : Value → Heap → Tok → Prop} {l : List (Addr × Obj)}
theorem said_27 : True := by
  k_with "m_off5" => (skip)
  trivial
theorem kE9 {e : Nat → List Nat} (k : ∀ D vs R c h' tk', A1 h' → A2 h' ((D, PySem.W.listOf vs.toArray c) :: l) → A3 h' ((D, PySem.W.listOf vs.toArray c) :: l) → Off [(D, PySem.W.listOf vs.toArray c)] l → Nums vs R → R.Nodup → R.Pairwise (· ≤ ·) → (∀ i, i ∈ R ↔ Reach e i) → C (.ref D) h' tk') :
    ∀ r nw h' tk', A1 h' → A2 h' nw → A3 h' nw → (∃ D vs R c, r = .ref D ∧ nw = (D, PySem.W.listOf vs.toArray c) :: l ∧ Off [(D, PySem.W.listOf vs.toArray c)] l ∧ Nums vs R ∧ R.Nodup ∧ R.Pairwise (· ≤ ·) ∧ ∀ i, i ∈ R ↔ Reach e i) → C r h' tk' := by
  rintro r nw h' tk' a b a3 ⟨D, vs, R, c, rfl, rfl, o, h1, h2, h3, h4⟩; exact k D vs R c h' tk' a b a3 o h1 h2 h3 h4
end
end

section
open PySem PySem.W PySem.Calls PySem.Spec PyProof.Rows PyProof.Rows.LCg PyProof.Rows.LCt
/-- what a list display walks over: any iterator that is made by a push -/
noncomputable def SrcG (prog : Program) (w : World) (A : Around) (h₀ : Heap) (L : Addr) (m : Str → Option Value) (Rest : Shared → (List (Addr × Obj) → Prop) → (Nat → Value → Prop) → Nat → List (Addr × Obj) → Prop) (xv : Value) (s₁ : Shared) : Prop :=
  ∃ (io : Obj) (fp : List Addr) (n : Nat) (P : Nat → Value → Prop) (St : Nat → Heap → Prop) (S : List (Addr × Obj) → Prop) (news : List (Addr × Obj)),
    (∀ (Q E : Value → Shared → Prop), Q (.ref s₁.heap.objs.size) { s₁ with heap := s₁.heap.push io } → wpAny (model prog w) A (pyIter xv) Q E s₁) ∧
    Walks prog w A s₁.heap.objs.size fp [s₁.heap.objs.size] n P St ∧ n ≤ sizeLine ∧ (∀ i h, St i h → ∃ o, h.get? s₁.heap.objs.size = some o) ∧
    (∀ i h h' o nw, St i h → h.get? s₁.heap.objs.size = some o → h'.get? s₁.heap.objs.size = some o → (∀ b o, h₀.get? b = some o → h'.get? b = some o) → News h₀ L h' nw → S nw → St i h') ∧
    St 0 (s₁.heap.push io) ∧ (∀ b ∈ fp, b < (s₁.heap.push io).objs.size) ∧ Fr h₀ L s₁.heap m ∧ News h₀ L s₁.heap news ∧ S news ∧ ∀ g, Rest { s₁ with heap := g } S P n news
section
variable {prog : Program} {w : World} {A : Around} {E : Value → Shared → Prop} {s : Shared} {h₀ : Heap} {L : Addr} {m : Str → Option Value} {env : Env}
theorem ListComp_TG {ct elt iter : Expr} {x : Str} {px : Pos} {scope : Scope} {cl : List (Str × Addr)} {pos : Pos} {Q : Value → Shared → Prop} (F₀ : Fr h₀ L s.heap m)
    (hclos : closureFor scope env = pure cl) (hcell : ∀ y ∈ scope.names, y.2 ≠ .cell) (hkind : scope.kind = .function)
    (hnames : ∀ y ∈ scope.names, y.2 = .local → scope.names.lookup y.1 = some .local) (hx : scope.names.lookup x = some .local)
    (h : wpAny (model prog w) A (eval iter env) (SrcG prog w A h₀ L m (fun s₂ S P n news => CompRestT prog w A h₀ L m env ct elt x scope cl s₂ S P (FinE h₀ L m s₂ Q) n 0 [] news)) E s)
    (hs : ∀ x, foldedSetIterable iter env x = pure x := by intro _; rfl) :
    wpAny (model prog w) A (eval (.ListComp elt [⟨.Name x px, iter, [ct], 0⟩] scope pos) env) Q E s := by
  rw [eval_ListComp]
  refine wpAny_comprehension_free (use := none) rfl hs hclos hkind hnames (wpAny_mono h (fun xv s₁ h₁ => ?_) fun _ _ e => e)
  obtain ⟨io, fp, n, P, St, S, news, hit, W, hsz, hIo, hSt, hst, hfp, F, N, hS, R⟩ := h₁
  refine hit _ _ ?_
  refine block_T W hsz hIo hSt hcell hkind hx hst hfp (F.push _) (fun p hp => ⟨Heap.get?_push_of_some _ (N p hp).1, (N p hp).2⟩) (Nat.ne_of_lt F.ns.lt) (next_is_new F) (fun p hp => Nat.ne_of_lt (Heap.lt_size (N p hp).1)) hS (R _) ?_
  intro D C h tk m' ys news' F' N' o1 hn hC₀ hD₀ hCL hDL hCD offC fin
  refine ⟨m', hn, fun h'' hs'' => fin D h'' tk (F'.change hs'' hCL hC₀) (fun p hp => ?_) o1⟩
  refine ⟨hs''.extBut _ _ ?_ (N' p hp).1, (N' p hp).2⟩
  rcases List.mem_cons.mp hp with rfl | hp
  · exact Ne.symm hCD
  · exact offC p hp
theorem ListComp_UG {elt iter : Expr} {x : Str} {px : Pos} {scope : Scope} {cl : List (Str × Addr)} {pos : Pos} {Q : Value → Shared → Prop} (F₀ : Fr h₀ L s.heap m)
    (hclos : closureFor scope env = pure cl) (hcell : ∀ y ∈ scope.names, y.2 ≠ .cell) (hkind : scope.kind = .function)
    (hnames : ∀ y ∈ scope.names, y.2 = .local → scope.names.lookup y.1 = some .local) (hx : scope.names.lookup x = some .local)
    (h : wpAny (model prog w) A (eval iter env) (SrcG prog w A h₀ L m (fun s₂ S P n news => CompRest prog w A h₀ L m env elt x scope cl s₂ S P (FinE h₀ L m s₂ Q) n 0 [] news)) E s)
    (hs : ∀ x, foldedSetIterable iter env x = pure x := by intro _; rfl) :
    wpAny (model prog w) A (eval (.ListComp elt [⟨.Name x px, iter, [], 0⟩] scope pos) env) Q E s := by
  rw [eval_ListComp]
  refine wpAny_comprehension_free (use := none) rfl hs hclos hkind hnames (wpAny_mono h (fun xv s₁ h₁ => ?_) fun _ _ e => e)
  obtain ⟨io, fp, n, P, St, S, news, hit, W, hsz, hIo, hSt, hst, hfp, F, N, hS, R⟩ := h₁
  refine hit _ _ ?_
  refine block_U W hsz hIo hSt hcell hkind hx hst hfp (F.push _) (fun p hp => ⟨Heap.get?_push_of_some _ (N p hp).1, (N p hp).2⟩) (Nat.ne_of_lt F.ns.lt) (next_is_new F) (fun p hp => Nat.ne_of_lt (Heap.lt_size (N p hp).1)) hS (R _) ?_
  intro D C h tk m' ys news' F' N' o1 hn hC₀ hD₀ hCL hDL hCD offC fin
  refine ⟨m', hn, fun h'' hs'' => fin D h'' tk (F'.change hs'' hCL hC₀) (fun p hp => ?_) o1⟩
  refine ⟨hs''.extBut _ _ ?_ (N' p hp).1, (N' p hp).2⟩
  rcases List.mem_cons.mp hp with rfl | hp
  · exact Ne.symm hCD
  · exact offC p hp
end
end

section
open PySem PySem.W PySem.Calls PySem.Spec PyProof.Rows PyProof.Rows.LCg PyProof.Rows.LCt
section
variable {prog : Program} {w : World} {A : Around} {s₁ : Shared} {h₀ : Heap} {L ax d : Addr} {m : Str → Option Value} {news : List (Addr × Obj)} {vs : List Value} {k : Nat} {o : Obj}
  {Rest : Shared → (List (Addr × Obj) → Prop) → (Nat → Value → Prop) → Nat → List (Addr × Obj) → Prop}
theorem SrcG.list (hh : A.handled = none) (F : Fr h₀ L s₁.heap m) (N : News h₀ L s₁.heap news) (hm : (ax, PySem.W.listOf vs.toArray k) ∈ news) (hz : vs.length ≤ 10000)
    (R : ∀ g, Rest { s₁ with heap := g } (fun nw => (ax, PySem.W.listOf vs.toArray k) ∈ nw) (fun i v => vs[i]? = some v) vs.length news) : SrcG prog w A h₀ L m Rest (.ref ax) s₁ := by
  have hl : s₁.heap.IsList ax vs.toArray := ⟨_, (N _ hm).1, rfl, k, rfl⟩
  have hlt : ax < s₁.heap.objs.size := Heap.lt_size (N _ hm).1
  have Wk : Walks prog w A s₁.heap.objs.size [s₁.heap.objs.size, ax] [s₁.heap.objs.size] vs.length _ _ := Walks.list (prog := prog) (w := w) hh s₁.heap.objs.size ax (Nat.ne_of_lt hlt) vs.toArray
  refine ⟨_, _, vs.length, _, _, fun nw => (ax, PySem.W.listOf vs.toArray k) ∈ nw, news, fun Q E h => wpAny_pyIter_list hl h, { sub := Wk.sub, frame := Wk.frame, done := Wk.done, self := Wk.self, item := fun i s Q E hi st hQ => Wk.item i s Q E hi st fun v h' tk hP => hQ v h' tk (by simpa using hP) }, by rw [sizeLine_eq]; (first | lia | omega), fun i h st => by obtain ⟨o, e, _⟩ := st.1; exact ⟨o, e⟩, ?_, ⟨⟨_, Heap.get?_push_size _ rfl, rfl, rfl⟩, hl.push _⟩, ?_, F, N, hm, R⟩
  · intro i h h' o nw st e e' kp N' hmem
    exact ⟨by obtain ⟨o', q, r⟩ := st.1; rw [e] at q; cases q; exact ⟨o, e', r⟩, ⟨_, (N' _ hmem).1, rfl, k, rfl⟩⟩
  · intro b hb
    rw [Heap.size_push]
    rcases List.mem_cons.mp hb with rfl | hb
    · exact Nat.lt_succ_self _
    · rw [List.mem_singleton.mp hb]; exact Nat.lt_succ_of_lt hlt
variable {K : Type} [DecidableEq K] {knd : KeyKind prog w K} {kvs : List (K × Value)}
theorem SrcG.keys (hh : A.handled = none) (F : Fr h₀ L s₁.heap m) (N : News h₀ L s₁.heap news) (hm : (d, o) ∈ news) (hd : o.IsDictOf knd kvs) (lo : (d == sysModules) = false) (hz : kvs.length ≤ 10000)
    (R : ∀ g, Rest { s₁ with heap := g } (fun nw => (d, o) ∈ nw) (fun i v => ∃ k x, kvs[i]? = some (k, x) ∧ knd.is k v = true) kvs.length news) : SrcG prog w A h₀ L m Rest (.ref d) s₁ := by
  obtain ⟨ep, hat⟩ := (kda_dict N hm hd).dictAt
  have e0 := (N _ hm).1
  have hlt : d < s₁.heap.objs.size := Heap.lt_size e0
  have re : ∀ h' : Heap, h'.get? d = some o → h'.DictAt knd d kvs ep := fun h' e' => hat.at' fun o' e => by rw [e0] at e; cases e; exact e'
  have Wk := Walks.dictKeys (knd := knd) hh s₁.heap.objs.size d (Nat.ne_of_lt hlt) kvs ep
  refine ⟨_, _, kvs.length, _, _, fun nw => (d, o) ∈ nw, news, fun Q E h => wpAny_pyIter_dict lo hat h, Wk, by rw [sizeLine_eq]; (first | lia | omega), fun i h st => by obtain ⟨o, e, _⟩ := st.1; exact ⟨o, e⟩, ?_, ⟨⟨_, Heap.get?_push_size _ rfl, rfl, rfl⟩, hat.push _⟩, ?_, F, N, hm, R⟩
  · intro i h h' o' nw st e e' kp N' hmem
    exact ⟨by obtain ⟨o2, q, r⟩ := st.1; rw [e] at q; cases q; exact ⟨o', e', r⟩, re h' (N' _ hmem).1⟩
  · intro b hb
    rw [Heap.size_push]
    rcases List.mem_cons.mp hb with rfl | hb
    · exact Nat.lt_succ_self _
    · rw [List.mem_singleton.mp hb]; exact Nat.lt_succ_of_lt hlt
theorem SrcG.values (hh : A.handled = none) (F : Fr h₀ L s₁.heap m) (N : News h₀ L s₁.heap news) (hv : (ax, ({ cls := .type "dict_values", data := .fields #[.ref d] } : Obj)) ∈ news) (hm : (d, o) ∈ news) (hd : o.IsDictOf knd kvs) (hz : kvs.length ≤ 10000)
    (R : ∀ g, Rest { s₁ with heap := g } (fun nw => (d, o) ∈ nw) (fun i v => ∃ k, kvs[i]? = some (k, v)) kvs.length news) : SrcG prog w A h₀ L m Rest (.ref ax) s₁ := by
  obtain ⟨ep, hat⟩ := (kda_dict N hm hd).dictAt
  have e0 := (N _ hm).1
  have hlt : d < s₁.heap.objs.size := Heap.lt_size e0
  have re : ∀ h' : Heap, h'.get? d = some o → h'.DictAt knd d kvs ep := fun h' e' => hat.at' fun o' e => by rw [e0] at e; cases e; exact e'
  have Wk := Walks.dictValues (knd := knd) hh s₁.heap.objs.size d (Nat.ne_of_lt hlt) kvs ep
  have hvw : s₁.heap.IsValuesView ax d := ⟨_, (N _ hv).1, rfl, rfl⟩
  refine ⟨_, _, kvs.length, _, _, fun nw => (d, o) ∈ nw, news, fun Q E h => wpAny_pyIter_values hvw hat h, Wk, by rw [sizeLine_eq]; (first | lia | omega), fun i h st => by obtain ⟨o, e, _⟩ := st.1; exact ⟨o, e⟩, ?_, ⟨⟨_, Heap.get?_push_size _ rfl, rfl, rfl⟩, hat.push _⟩, ?_, F, N, hm, R⟩
  · intro i h h' o' nw st e e' kp N' hmem
    exact ⟨by obtain ⟨o2, q, r⟩ := st.1; rw [e] at q; cases q; exact ⟨o', e', r⟩, re h' (N' _ hmem).1⟩
  · intro b hb
    rw [Heap.size_push]
    rcases List.mem_cons.mp hb with rfl | hb
    · exact Nat.lt_succ_self _
    · rw [List.mem_singleton.mp hb]; exact Nat.lt_succ_of_lt hlt
end
end

section
open PySem PySem.W PySem.Calls PySem.Spec PyProof.Rows PyProof.Rows.LCg PyProof.Rows.LCt
/-- a turn that only reads, its end -/
noncomputable def RdEnd (h₀ : Heap) (L : Addr) (m : Str → Option Value) (s : Shared) (all : List (Addr × Obj)) (s' : Shared) : Prop :=
  ∃ h' tk', s' = { s with heap := h', toks := tk' } ∧ Fr h₀ L h' m ∧ News h₀ L h' all
theorem RdEnd.intro {h₀ : Heap} {L : Addr} {m : Str → Option Value} {s : Shared} {all all' : List (Addr × Obj)} {h' : Heap} {tk' : Nat} (F : Fr h₀ L h' m) (N : News h₀ L h' all') (hs : ∀ p ∈ all, p ∈ all') : RdEnd h₀ L m s all { s with heap := h', toks := tk' } :=
  ⟨h', tk', rfl, F, News.sub N hs⟩
theorem range_filter_snoc {keep : Nat → Bool} {i : Nat} : (List.range (i + 1)).filter keep = (List.range i).filter keep ++ (if keep i = true then [i] else []) := by
  rw [List.range_succ, List.filter_append]
  by_cases h : keep i = true <;> simp [h]
section
variable {prog : Program} {w : World} {A : Around} {s : Shared} {h₀ : Heap} {L : Addr} {m : Str → Option Value} {env : Env} {ct elt : Expr} {x : Str} {scope : Scope} {cl : List (Str × Addr)} {S : List (Addr × Obj) → Prop} {P : Nat → Value → Prop} {Fin : List Value → List (Addr × Obj) → Prop} {news : List (Addr × Obj)} {n : Nat}
theorem CompRestT.read (keep : Nat → Bool) (Y : Nat → Value → Prop) (hS : S news) (fin : ∀ ys, Paired Y ((List.range n).filter keep) ys → Fin ys news)
    (turn : ∀ i v I oI C oC D ys m₂ h tk (E' : Value → Shared → Prop), i < n → P i v → NsObj oC m₂ → m₂ x = some v → Fr h₀ L h m → News h₀ L h ((I, oI) :: (C, oC) :: (D, lst ys) :: news) → Off3 I C D news → ((@Ne Nat I C) ∧ (@Ne Nat I D) ∧ (@Ne Nat C D)) →
      wpAny (model prog w) A (isTrue ct (compEnvC scope cl C env) (eval ct (compEnvC scope cl C env))) (fun ok s' => if ok = true then
        wpAny (model prog w) A (eval elt (compEnvC scope cl C env)) (fun y s'' => keep i = true ∧ Y i y ∧ RdEnd h₀ L m { s with heap := h, toks := tk } ((I, oI) :: (C, oC) :: (D, lst ys) :: news) s'') E' s'
        else (keep i = false ∧ RdEnd h₀ L m { s with heap := h, toks := tk } ((I, oI) :: (C, oC) :: (D, lst ys) :: news) s')) E' { s with heap := h, toks := tk }) :
    CompRestT prog w A h₀ L m env ct elt x scope cl s S P Fin n 0 [] news := by
  have key : ∀ k i ys, i + k = n → Paired Y ((List.range i).filter keep) ys → CompRestT prog w A h₀ L m env ct elt x scope cl s S P Fin k i ys news := by
    intro k
    induction k with
    | zero =>
      intro i ys hi hp
      have : i = n := hi
      subst this
      exact fin ys hp
    | succ k ih =>
      intro i ys hi hp
      refine CompRestT.succ fun v I oI C oC D m₂ h tk E' hP hC hx F N o3 ne => ?_
      refine wpAny_mono (turn i v I oI C oC D ys m₂ h tk E' (by (first | lia | omega)) hP hC hx F N o3 ne) (fun ok s' hok => ?_) fun _ _ e => e
      cases ok with
      | true =>
        simp only [if_true] at hok ⊢
        refine wpAny_mono hok (fun y s'' hy => ?_) fun _ _ e => e
        obtain ⟨hk, hY, h', tk', rfl, F', N'⟩ := hy
        refine ⟨h', tk', news, rfl, F', N', o3, hS, ih (i + 1) _ (by (first | lia | omega)) ?_⟩
        rw [range_filter_snoc, if_pos hk]
        exact hp.snoc hY
      | false =>
        simp only [Bool.false_eq_true, if_false] at hok ⊢
        obtain ⟨hk, h', tk', rfl, F', N'⟩ := hok
        refine ⟨h', tk', news, rfl, F', N', o3, hS, ih (i + 1) _ (by (first | lia | omega)) ?_⟩
        rw [range_filter_snoc, if_neg (by rw [hk]; decide), List.append_nil]
        exact hp
  exact key n 0 [] (by (first | lia | omega)) .nil
theorem CompRest.read (Y : Nat → Value → Prop) (hS : S news) (fin : ∀ ys, Paired Y (List.range n) ys → Fin ys news)
    (turn : ∀ i v I oI C oC D ys m₂ h tk (E' : Value → Shared → Prop), i < n → P i v → NsObj oC m₂ → m₂ x = some v → Fr h₀ L h m → News h₀ L h ((I, oI) :: (C, oC) :: (D, lst ys) :: news) → Off3 I C D news → ((@Ne Nat I C) ∧ (@Ne Nat I D) ∧ (@Ne Nat C D)) →
        wpAny (model prog w) A (eval elt (compEnvC scope cl C env)) (fun y s'' => Y i y ∧ RdEnd h₀ L m { s with heap := h, toks := tk } ((I, oI) :: (C, oC) :: (D, lst ys) :: news) s'') E' { s with heap := h, toks := tk }) :
    CompRest prog w A h₀ L m env elt x scope cl s S P Fin n 0 [] news := by
  have key : ∀ k i ys, i + k = n → Paired Y (List.range i) ys → CompRest prog w A h₀ L m env elt x scope cl s S P Fin k i ys news := by
    intro k
    induction k with
    | zero =>
      intro i ys hi hp
      have : i = n := hi
      subst this
      exact fin ys hp
    | succ k ih =>
      intro i ys hi hp
      refine CompRest.succ fun v I oI C oC D m₂ h tk E' hP hC hx F N o3 ne => ?_
      refine wpAny_mono (turn i v I oI C oC D ys m₂ h tk E' (by (first | lia | omega)) hP hC hx F N o3 ne) (fun y s'' hy => ?_) fun _ _ e => e
      obtain ⟨hY, h', tk', rfl, F', N'⟩ := hy
      refine ⟨h', tk', news, rfl, F', N', o3, hS, ih (i + 1) _ (by (first | lia | omega)) ?_⟩
      rw [List.range_succ]
      exact hp.snoc hY
  exact key n 0 [] (by (first | lia | omega)) .nil
end
end

section
open PySem PySem.W PySem.Calls PyProof.Rows
section
variable {prog : Program} {w : World} {A₀ A : Around} {s : Shared} {base h₀ : Heap} {outer : List Env} {L : Addr} {m : Str → Option Value} {env : Env} {news : List (Addr × Obj)}
/-- the call of a function with cells (the kit's callX_cells, with what stays told) -/
theorem code_defCG {K : Frag} {p : Program} {loose : List Str} {mean : ExcName → Option Value} {mg mb : Str → Option Value} {R : Result → Shared → Prop} {name qual : Str} {params : Arguments} {body : List Stmt} {scope : Scope} {dV kV doc pm cdv ct oc : Value} {an od : Option Addr} {osl : Array (Option Value)} {f : Addr} {args : Args} {binds : List (Str × Value)}
    (B : Below A₀ base outer h₀) (F : Fr h₀ L s.heap m) (X₀ : K.In h₀) (N : News h₀ L s.heap news) (T : Top p loose mean mg mb h₀) (hA : A.frames = some (env :: outer)) (hf : env.frame = some L) (hke : env.scope.kind = .function)
    (ho : K.lookup f = some ⟨oc, od, .func (fnOf name qual params body scope dV kV doc pm an cdv ct), osl⟩) (hcd : codeIn K cdv qual = true) (hroom : A.depth < recursionLimit)
    (hbind : BindsTo s (fnOf name qual params body scope dV kV doc pm an cdv ct) args binds)
    (hkind : ∀ n, ∀ x ∈ binds, scope.names.lookup x.1 = some .local ∨ (scope.names.lookup x.1 = some .cell ∧ ((cellsFrom n scope.names []).lookup x.1).isSome = true))
    (hnd : ((cellsFrom 0 scope.names []).map (·.1)).Nodup)
    (h : ∀ g L' h₁ tk cells, Fr h₀ L g m → Fr g L' h₁ (bindL (envOfC qual scope L' f cdv).kindOf binds fun _ => none) → News g L' h₁ (cells ++ news) →
      CellsAre (bindC (envOfC qual scope L' f cdv).kindOf binds fun _ => none) (cellsFrom (L' + 1) scope.names []) cells → Below A base (env :: outer) g → K.In g → Top p loose mean mg mb g → (∀ p ∈ news, p.1 < L') → GSub s.heap g (news.map (·.1)) →
      wpAny (model prog w) (A.deeper (envOfC qual scope L' f cdv)) (execs body (envOfC qual scope L' f cdv))
        (fun fl s' => LeaveK h₀ L m g R (match fl with | .ret v => v | _ => .none) s')
        (fun e s' => wpAny (model prog w) (A.deeper (envOfC qual scope L' f cdv)) (leaving (envOfC qual scope L' f cdv) e) (fun _ s'' => R (.error e) s'') (fun e' s'' => R (.error e') s'') s')
        { s with heap := h₁, toks := tk })
    (hco : scope.isCoroutine = false) (hgen : scope.isGenerator = false) (hk : scope.kind = .function) : codeAny (model prog w) A (.call (.ref f) args) R s := by
  obtain ⟨FG, BG, st, lv⟩ := groundX (R := R) B F N hA hf hke
  refine codeAny_call_function hroom ((X₀.keeps F.keep) _ _ ho) rfl hco hgen rfl (codeRec_of (X₀.keeps F.keep) hcd) (hbind _ _ _ _ ?_)
  refine wpAny_newFunctionEnv_cells hk (hkind _) fun env' he s' x => ?_
  subst he
  refine ⟨(T.nolimit.keeps F.keep).keeps x.toInCall.keep, codeAny_func ?_⟩
  obtain ⟨h₁, tk, rfl, _⟩ := x.done
  have hk₁ := x.toInCall.keep
  obtain ⟨cells, NC, Y⟩ := Cl.news (h₀ := s.heap) (Nat.le_refl _) fun n c hm => ⟨x.cell n c (lookup_of_mem_nodup (cellsFrom_names scope.names 0 (s.heap.objs.size + 1) [] [] rfl ▸ hnd) hm), x.above n c hm⟩
  refine wpAny_mono (h _ s.heap.objs.size h₁ tk cells FG ⟨x.toInCall.ns, fun b o e => hk₁ b o (of_hideAll _ e), Nat.le_of_eq (hideAll_size _ _)⟩ (fun p hp => ?_) Y BG (X₀.keeps st) (T.keeps st) (fun p hp => Heap.lt_size (N p hp).1) (fun b o e n => hideAll_get _ e n)) (fun fl s' hl => lv _ _ hl) fun _ _ y => y
  rcases List.mem_append.mp hp with hp | hp
  · refine ⟨(NC p hp).1, (NC p hp).2.1, ?_⟩
    cases q : (hideAll s.heap (news.map (·.1))).get? p.1 with
    | none => rfl
    | some o => have := of_hideAll _ q; rw [(NC p hp).2.2] at this; cases this
  · exact ⟨hk₁ _ _ (N p hp).1, Nat.ne_of_lt (Heap.lt_size (N p hp).1), hideAll_none _ (List.mem_map_of_mem hp)⟩
end
theorem runs_ofC {w : World} {f : Addr} {args : List Value} {D U : Nat} {news : List (Addr × Obj)} {Post : Value → List (Addr × Obj) → Prop} {name qual : Str} {params : Arguments} {body : List Stmt} {scope : Scope} {dV kV doc pm cdv ct oc : Value} {an od : Option Addr} {osl : Array (Option Value)} {names : List Str}
    (ho : (hd0.heap_1 w.params).lookup f = some ⟨oc, od, .func (fnOf name qual params body scope dV kV doc pm an cdv ct), osl⟩) (hcd : codeIn (hd0.heap_1 w.params) cdv qual = true)
    (_hnm : params.args.map (·.arg) = names) (hbind : ∀ s, BindsTo s (fnOf name qual params body scope dV kV doc pm an cdv ct) ⟨args, []⟩ (names.zip args))
    (hkind : ∀ n, ∀ x ∈ names.zip args, scope.names.lookup x.1 = some .local ∨ (scope.names.lookup x.1 = some .cell ∧ ((cellsFrom n scope.names []).lookup x.1).isSome = true))
    (hnd : ((cellsFrom 0 scope.names []).map (·.1)).Nodup)
    (hco : scope.isCoroutine = false) (hgen : scope.isGenerator = false) (hk : scope.kind = .function)
    (h : ∀ (p : Program) (loose : List Str) (mean : ExcName → Option Value) (mg mb : Str → Option Value) (dp un : Nat) (gd : Option (List Code)) (outer : List Env) (A₀ : Around) (base g : Heap) (L : Addr) (h₁ : Heap) (gens : Array GenState) (drawn : Drawn) (tk : Nat) (os : OsState) (cells : List (Addr × Obj)),
      Below A₀ base outer g → Fr g L h₁ (bindL (envOfC qual scope L f cdv).kindOf (names.zip args) fun _ => none) → (hd0.heap_1 w.params).In g → News g L h₁ (cells ++ news) →
      CellsAre (bindC (envOfC qual scope L f cdv).kindOf (names.zip args) fun _ => none) (cellsFrom (L + 1) scope.names []) cells → (∀ p ∈ news, p.1 < L) → Top p loose mean mg mb g → dp + D ≤ recursionLimit → un + U < cLine + 3 →
      wpAny (model PP w) (ktrTop dp un gd qual scope L f cdv (cellsFrom (L + 1) scope.names []) outer) (execs body (envX qual scope L f cdv (cellsFrom (L + 1) scope.names []))) (fun fl s' => Done g L gens drawn os Post (match fl with | .ret v => v | _ => .none) s') (fun _ _ => False) ⟨h₁, gens, drawn, tk, os⟩) :
    Runs w f args D U news Post := by
  intro p loose mean mg mb A env outer A₀ base h₀ L m s R B F X N T hA hf hke hh hd hu k
  obtain ⟨Ah, Ad, Af, Ag, Au⟩ := A
  dsimp only at hA hh hd hu
  subst hA hh
  refine code_defCG B F X N T rfl hf hke ho hcd (by show Ad < recursionLimit; (first | lia | omega)) (hbind s) hkind hnd (fun g L' h₁ tk cells FG F' N' Y B' X' T' l1 kG => ?_) hco hgen hk
  obtain ⟨sh, sg, sd, st, so⟩ := s
  refine wpAny_mono (h p loose mean mg mb (Ad + 1) (Au + 3) Ag (env :: outer) _ base g L' h₁ sg sd _ so cells B' F' X' N' Y l1 T' (by (first | lia | omega)) (by (first | lia | omega))) (fun fl s' hD => ?_) (fun _ _ e => e.elim)
  obtain ⟨h', tk', m', news', rfl, F₂, N₂, hP⟩ := hD
  refine leaveK_ F₂ N₂ fun F₃ N₃ => k _ news' h' tk' F₃ N₃ ⟨fun b o e hb => F₂.keep b o (kG b o e hb), fun q hq => ?_⟩ hP
  by_cases hb : q.1 ∈ news.map (·.1)
  · exact .inl hb
  · right
    cases hx : sh.get? q.1 with
    | none => rfl
    | some o =>
      have := kG _ _ hx hb
      rw [(N₂ q hq).2.2] at this; cases this
end

section
open PySem PySem.W PySem.Calls PyProof.Rows
theorem said_28 : True := by
  k_with "m_enterC" => ((refine' runs_ofC ?zqho ?zqhcd ?zqhnm ?zqhbind ?zqhkind ?zqhnd ?zqc1 ?zqc2 ?zqc3 ?_; (case zqho => k_is); (case zqhcd => k_is); (case zqhnm => ((dsimp only [List.map]); (try exact rfl))); (case zqhbind => exact fun _ => BindsTo.of_eq rfl); (case zqhkind => exact kindsX rfl); (case zqhnd => decide +kernel); (case zqc1 => exact rfl); (case zqc2 => exact rfl); (case zqc3 => exact rfl); k_whole; intro p loose mean mg mb dp un gd outer A₀ base g L h₁ gens drawn tk os cells' B F X N' Y' l1 T hD hU; k_cells Y'; (try dsimp only [List.cons_append, List.nil_append] at N'); (try dsimp only at F); (try k_fold)))
  trivial
theorem nums_keysG {prog : Program} {w : World} {β : Type} : ∀ {l : List Nat} {kvs : List (Int × β)} {vs : List Value}, kvs.map (·.1) = l.map (fun (i : Nat) => (i : Int)) → vs.length = kvs.length → (∀ (j : Nat) (v : Value), vs[j]? = some v → ∃ k x, kvs[j]? = some (k, x) ∧ (intKind prog w).is k v = true) → Nums vs l
 := by
  intro l
  induction l with
  | nil => intro kvs vs e h k; cases List.map_eq_nil_iff.mp e; cases List.length_eq_zero_iff.mp h; exact .nil
  | cons i l ih =>
    intro kvs vs e h k
    cases kvs with
    | nil => cases e
    | cons ab kvs =>
    obtain ⟨a, b⟩ := ab
    cases vs with
    | nil => exact absurd h (Nat.ne_of_lt (Nat.zero_lt_succ _))
    | cons v vs =>
    obtain ⟨kk, x, ex, hk⟩ := k 0 v rfl
    simp only [List.map_cons, List.cons.injEq] at e
    have e1 : kk = (i : Int) := by
      have : ((a, b) :: kvs)[0]? = some (a, b) := rfl
      rw [this] at ex; rw [← (Prod.mk.inj (Option.some.inj ex)).1]; exact e.1
    obtain ⟨t, rfl⟩ := Value.isInt_shape hk
    subst e1
    exact .cons i t (ih e.2 (Nat.succ.inj h) fun j u hu => k (j + 1) u hu)
theorem lks_nums_of {vs : List Value} {ns : List Int} (h : IntsAre vs ns) : lks_nums vs = ns ∧ kf_ints vs = true := by
  induction h with
  | nil => exact ⟨rfl, rfl⟩
  | cons n t _ ih => exact ⟨by show n :: lks_nums _ = _; rw [ih.1], ih.2⟩
theorem lks_vals_nums : ∀ (R : List Nat) (i : Nat) (t : Nat → Tok), Nums (lks_vals (R.map fun (i : Nat) => (i : Int)) i t) R
  | [], _, _ => .nil
  | a :: R, i, t => .cons a (t i) (lks_vals_nums R (i + 1) t)
theorem lks_asc_of : ∀ {l : List Int}, l.Pairwise (· ≤ ·) → lks_asc l = true
  | [], _ => rfl
  | a :: r, h => by
    have h := List.pairwise_cons.mp h
    simp only [lks_asc, Bool.and_eq_true, List.all_eq_true, decide_eq_true_eq]
    exact ⟨h.1, lks_asc_of h.2⟩
section
variable {w : World} {A : Around} {E : Value → Shared → Prop} {s : Shared} {L D d : Addr} {h₀ h : Heap} {m : Str → Option Value} {news pre post : List (Addr × Obj)} {vs us : List Value} {R S : List Nat} {k kb i : Nat} {t : Tok} {o : Obj}
theorem sort_nums {Q : Value → Shared → Prop} (F : Fr h₀ L s.heap m) (N : News h₀ L s.heap ((D, PySem.W.listOf vs.toArray k) :: post)) (h2 : ∀ q ∈ post, q.1 ≠ D) (hv : Nums vs R) (hne : R ≠ []) (h64 : R.length < 64)
    (h : ∀ h' vs' R' c, Fr h₀ L h' m → News h₀ L h' ((D, PySem.W.listOf vs'.toArray c) :: post) → Nums vs' R' → R'.Perm R → R'.Pairwise (· ≤ ·) → Q .none { s with heap := h' }) :
    wpAny (model PP w) A (call (.builtin "list.sort") [.ref D]) Q E s := by
  have hp : (R.mergeSort).Perm R := List.mergeSort_perm R _
  have hs : (R.mergeSort).Pairwise (· ≤ ·) := by
    have := List.pairwise_mergeSort (le := fun (a b : Nat) => decide (a ≤ b)) (fun a b c h1 h2 => by simp at *; (first | lia | omega)) (fun a b => by simp; (first | lia | omega)) R
    exact this.imp fun h => by simpa using h
  obtain ⟨e1, e2⟩ := lks_nums_of hv.ints
  have hlen := hv.len
  refine lks_sort (q := (R.mergeSort).map fun (i : Nat) => (i : Int)) F N (fun t => Upd.head h2) ?_ ?_ ?_ (by rw [List.toList_toArray, hlen]; exact h64) fun t h' F' N' => h h' _ _ _ F' N' (lks_vals_nums _ 0 t) hp hs
  · rw [List.toList_toArray]; exact e2
  · rw [List.toList_toArray]
    unfold lks_ok
    rw [e1, Bool.and_eq_true]
    refine ⟨List.isPerm_iff.mpr (hp.symm.map _), lks_asc_of ?_⟩
    rw [List.pairwise_map]
    exact hs.imp fun h => Int.ofNat_le.mpr h
  · rw [List.toList_toArray]
    cases vs with
    | nil => exact absurd (List.length_eq_zero_iff.mp hlen.symm) hne
    | cons _ _ => rfl
/-- «sorted(a dict with numbers)» -/
theorem sorted_keys {kvs : List (Int × Value)} {Q : Value → Shared → Prop} (hh : A.handled = none) (F : Fr h₀ L s.heap m) (N : News h₀ L s.heap news) (hm : (d, o) ∈ news) (hd : o.IsDictOf (iK w) kvs) (hk : kvs.map (·.1) = R.map (fun (i : Nat) => (i : Int))) (lo : (d == sysModules) = false) (hne : R ≠ []) (h64 : R.length < 64)
    (h : ∀ D h' tk vs' R' c, Fr h₀ L h' m → News h₀ L h' ((D, PySem.W.listOf vs'.toArray c) :: news) → (∀ q ∈ news, q.1 < D) → Nums vs' R' → R'.Perm R → R'.Pairwise (· ≤ ·) → Q (.ref D) { s with heap := h', toks := tk }) :
    wpAny (model PP w) A (call (.builtin "sorted") [.ref d]) Q E s := by
  obtain ⟨ep, hat⟩ := (kda_dict N hm hd).dictAt
  have hl : kvs.length = R.length := by have := congrArg List.length hk; simpa using this
  refine kdu_sorted (kdl_dict (knd := iK w) lo) hh F N hat (by rw [hl, sizeLine_eq]; (first | lia | omega)) fun D h' tk vs F' N' l1 hvl hP => ?_
  have hv : Nums vs R := nums_keysG hk hvl hP
  refine sort_nums F' N' (fun q hq => Nat.ne_of_lt (l1 q hq)) hv hne h64 fun h'' vs' R' c F'' N'' hv' hp hs => h D h'' _ vs' R' c F'' N'' l1 hv' hp hs
theorem numKV_keys (f : Nat → Addr) (l : List Nat) : (numKV f l).map (·.1) = l.map (fun (i : Nat) => (i : Int)) := by unfold numKV; rw [List.map_map]; rfl
theorem add_nums {b : Addr} {Q : Value → Shared → Prop} (F : Fr h₀ L s.heap m) (N : News h₀ L s.heap news) (hm : (D, PySem.W.listOf vs.toArray k) ∈ news) (hb : (b, PySem.W.listOf us.toArray kb) ∈ news) (hv : Nums vs R) (hu : Nums us S) (hz : R.length + S.length ≤ 10000)
    (h : ∀ D' ws h', Fr h₀ L h' m → News h₀ L h' ((D', PySem.W.listOf (List.toArray ws) 0) :: news) → (∀ p ∈ news, p.1 < D') → Nums ws (R ++ S) → Q (.ref D') { s with heap := h' }) :
    wpAny (model PP w) A (binaryOp .Add (.ref D) (.ref b)) Q E s := by
  refine kmk_add_ints F N (tl_list N hm) (tl_list N hb) hv.ints hu.ints (fun D' ws h' F' N' l1 hi => h D' ws h' F' N' l1 (Nums.ofInts (by rw [List.map_append]; exact hi))) (by rw [List.length_map, List.length_map, sizeLine_eq]; (first | lia | omega))
end
section
variable {w : World} {A : Around} {E : Value → Shared → Prop} {s : Shared} {L : Addr} {h₀ h : Heap} {m : Str → Option Value} {news tmp : List (Addr × Obj)}
  {α : Role → Addr} {ω : Role → Obj} {ο δ : Nat → Addr} {μ : Role → Addr} {σ : Role → Obj} {st : St} {value slice : PySem.Expr} {t : Tok} {Q : Value → Shared → Prop}
theorem item_w (name : String) (v : Value) (G : Good w α ω ο δ μ σ st) (N : News h₀ L s.heap news) (hs : ∀ p ∈ ledW α ο δ μ σ st, p ∈ news) (hl : valueAt (worldKV α μ) (Str.ofString name) = some v) (h : Q v { s with toks := s.toks + 1 })
    (hs1 : subscripted slice false (.ref (α .world)) (.str name t) = operate [.ref (α .world), .str name t] (getItem (.ref (α .world)) (.str name t)) := by with_unfolding_all rfl) (hg : ∀ r, letTemporaryGo value (.ref (α .world)) r = pure () := by intro _; with_unfolding_all rfl) :
    wpAny (model PP w) A (subscriptTail value slice (.ref (α .world)) (.str (Str.ofString name) t)) Q E s :=
  item_world G N hs hl h hs1 hg
end
end

section
open PySem PySem.W PySem.Calls PyProof.Rows
section
variable {w : World} {A : Around} {E : Value → Shared → Prop} {s : Shared} {L : Addr} {h₀ h : Heap} {m : Str → Option Value} {news tmp : List (Addr × Obj)}
  {α : Role → Addr} {ω : Role → Obj} {ο δ : Nat → Addr} {μ : Role → Addr} {σ : Role → Obj} {st : St} {value slice : PySem.Expr} {t : Tok} {Q : Value → Shared → Prop}
theorem item_w_all (G : Good w α ω ο δ μ σ st) (N : News h₀ L s.heap news) (hs : ∀ p ∈ ledW α ο δ μ σ st, p ∈ news) (h : Q (.ref (α .all)) { s with toks := s.toks + 1 })
    (hs1 : subscripted slice false (.ref (α .world)) (.str (Str.ofString "all") t) = operate [.ref (α .world), .str (Str.ofString "all") t] (getItem (.ref (α .world)) (.str (Str.ofString "all") t)) := by with_unfolding_all rfl) (hg : ∀ r, letTemporaryGo value (.ref (α .world)) r = pure () := by intro _; with_unfolding_all rfl) :
    wpAny (model PP w) A (subscriptTail value slice (.ref (α .world)) (.str (Str.ofString "all") t)) Q E s := item_world G N hs rfl h hs1 hg
theorem item_w_edges (G : Good w α ω ο δ μ σ st) (N : News h₀ L s.heap news) (hs : ∀ p ∈ ledW α ο δ μ σ st, p ∈ news) (h : Q (.ref (α .edges)) { s with toks := s.toks + 1 })
    (hs1 : subscripted slice false (.ref (α .world)) (.str (Str.ofString "edges") t) = operate [.ref (α .world), .str (Str.ofString "edges") t] (getItem (.ref (α .world)) (.str (Str.ofString "edges") t)) := by with_unfolding_all rfl) (hg : ∀ r, letTemporaryGo value (.ref (α .world)) r = pure () := by intro _; with_unfolding_all rfl) :
    wpAny (model PP w) A (subscriptTail value slice (.ref (α .world)) (.str (Str.ofString "edges") t)) Q E s := item_world G N hs rfl h hs1 hg
theorem item_w_sorts (G : Good w α ω ο δ μ σ st) (N : News h₀ L s.heap news) (hs : ∀ p ∈ ledW α ο δ μ σ st, p ∈ news) (h : Q (.ref (α .sorts)) { s with toks := s.toks + 1 })
    (hs1 : subscripted slice false (.ref (α .world)) (.str (Str.ofString "sorts") t) = operate [.ref (α .world), .str (Str.ofString "sorts") t] (getItem (.ref (α .world)) (.str (Str.ofString "sorts") t)) := by with_unfolding_all rfl) (hg : ∀ r, letTemporaryGo value (.ref (α .world)) r = pure () := by intro _; with_unfolding_all rfl) :
    wpAny (model PP w) A (subscriptTail value slice (.ref (α .world)) (.str (Str.ofString "sorts") t)) Q E s := item_world G N hs rfl h hs1 hg
theorem item_w_freed (G : Good w α ω ο δ μ σ st) (N : News h₀ L s.heap news) (hs : ∀ p ∈ ledW α ο δ μ σ st, p ∈ news) (h : Q (.ref (μ .freed)) { s with toks := s.toks + 1 })
    (hs1 : subscripted slice false (.ref (α .world)) (.str (Str.ofString "freed") t) = operate [.ref (α .world), .str (Str.ofString "freed") t] (getItem (.ref (α .world)) (.str (Str.ofString "freed") t)) := by with_unfolding_all rfl) (hg : ∀ r, letTemporaryGo value (.ref (α .world)) r = pure () := by intro _; with_unfolding_all rfl) :
    wpAny (model PP w) A (subscriptTail value slice (.ref (α .world)) (.str (Str.ofString "freed") t)) Q E s := item_world G N hs rfl h hs1 hg
theorem item_w_cycle (G : Good w α ω ο δ μ σ st) (N : News h₀ L s.heap news) (hs : ∀ p ∈ ledW α ο δ μ σ st, p ∈ news) (h : Q (.ref (α .cyc)) { s with toks := s.toks + 1 })
    (hs1 : subscripted slice false (.ref (α .world)) (.str (Str.ofString "cycle") t) = operate [.ref (α .world), .str (Str.ofString "cycle") t] (getItem (.ref (α .world)) (.str (Str.ofString "cycle") t)) := by with_unfolding_all rfl) (hg : ∀ r, letTemporaryGo value (.ref (α .world)) r = pure () := by intro _; with_unfolding_all rfl) :
    wpAny (model PP w) A (subscriptTail value slice (.ref (α .world)) (.str (Str.ofString "cycle") t)) Q E s := item_world G N hs rfl h hs1 hg
end
end

section
open PySem PySem.W PySem.Calls PyProof.Rows
section
variable {w : World} {A : Around} {E : Value → Shared → Prop} {s : Shared} {L : Addr} {h₀ h : Heap} {m : Str → Option Value} {news tmp : List (Addr × Obj)}
  {α : Role → Addr} {ω : Role → Obj} {ο δ : Nat → Addr} {μ : Role → Addr} {σ : Role → Obj} {st : St} {t : Tok} {Q : Value → Shared → Prop} {i : Nat}
theorem said_29 : True := by
  k_with "subscriptTail" => ((k_here; k_dflt ((with_reducible refine' item_w_all ?zqG ?zqN ?zqs ?_); (k_extra "m_s"))))
  k_with "subscriptTail" => ((k_here; k_dflt ((with_reducible refine' item_w_edges ?zqG ?zqN ?zqs ?_); (k_extra "m_s"))))
  k_with "subscriptTail" => ((k_here; k_dflt ((with_reducible refine' item_w_sorts ?zqG ?zqN ?zqs ?_); (k_extra "m_s"))))
  k_with "subscriptTail" => ((k_here; k_dflt ((with_reducible refine' item_w_freed ?zqG ?zqN ?zqs ?_); (k_extra "m_s"))))
  k_with "subscriptTail" => ((k_here; k_dflt ((with_reducible refine' item_w_cycle ?zqG ?zqN ?zqs ?_); (k_extra "m_s"))))
  trivial
theorem notin_objs_in (G : Good w α ω ο δ μ σ st) (N : News h₀ L s.heap news) (hs : ∀ p ∈ ledW α ο δ μ σ st, p ∈ news) (hi : i ∈ st.live) (h : Q (.bool false) { s with toks := s.toks + 1 }) :
    wpAny (model PP w) A (compareOp .NotIn (.int (i : Int) t) (.ref (α .objs))) Q E s :=
  kdg_notin (knd := iK w) N (hs _ (mem_led (β := adr α ο δ μ) (r := .objs) trivial)) (G.sh .objs trivial) (G.low (r := .objs) trivial) (intKind_is _ _ _ _) true (by rw [numKV_find ο st.live i hi]; rfl) h
theorem notin_objs_out (G : Good w α ω ο δ μ σ st) (N : News h₀ L s.heap news) (hs : ∀ p ∈ ledW α ο δ μ σ st, p ∈ news) (hi : i ∉ st.live) (h : Q (.bool true) { s with toks := s.toks + 1 }) :
    wpAny (model PP w) A (compareOp .NotIn (.int (i : Int) t) (.ref (α .objs))) Q E s :=
  kdg_notin (knd := iK w) N (hs _ (mem_led (β := adr α ο δ μ) (r := .objs) trivial)) (G.sh .objs trivial) (G.low (r := .objs) trivial) (intKind_is _ _ _ _) false (by rw [numKV_none ο st.live i hi]; rfl) h
theorem values_objs (F : Fr h₀ L s.heap m) (N : News h₀ L s.heap news) (hs : ∀ p ∈ ledW α ο δ μ σ st, p ∈ news) (G : Good w α ω ο δ μ σ st)
    (h : ∀ (D : Addr) h', Fr h₀ L h' m → News h₀ L h' ((D, { cls := .type "dict_values", data := .fields #[.ref (α .objs)] }) :: news) → (∀ q ∈ news, q.1 < D) → Q (.ref D) { s with heap := h' }) :
    wpAny (model PP w) A (call (.builtin "dict.values") [.ref (α .objs)]) Q E s :=
  kdl_view_values (knd := iK w) F N (hs _ (mem_led (β := adr α ο δ μ) (r := .objs) trivial)) (G.sh .objs trivial) (G.low (r := .objs) trivial) h
theorem len_objs (G : Good w α ω ο δ μ σ st) (N : News h₀ L s.heap news) (hs : ∀ p ∈ ledW α ο δ μ σ st, p ∈ news) (hz : st.live.length ≤ 10000) (h : Q (.int st.live.length (s.toks + 1)) { s with toks := s.toks + 1 + 1 }) :
    wpAny (model PP w) A (call (.builtin "len") [.ref (α .objs)]) Q E s := by
  refine kda_len (knd := iK w) N (hs _ (mem_led (β := adr α ο δ μ) (r := .objs) trivial)) (G.sh .objs trivial) (G.low (r := .objs) trivial) (by rw [numKV_len]; (first | lia | omega)) ?_
  rw [numKV_len]; exact h
theorem len_all (G : Good w α ω ο δ μ σ st) (N : News h₀ L s.heap news) (hs : ∀ p ∈ ledW α ο δ μ σ st, p ∈ news) (hz : st.n ≤ 10000) (h : Q (.int st.n (s.toks + 1)) { s with toks := s.toks + 1 + 1 }) :
    wpAny (model PP w) A (call (.builtin "len") [.ref (α .all)]) Q E s := by
  refine kda_len (knd := iK w) N (hs _ (mem_led (β := adr α ο δ μ) (r := .all) trivial)) (G.sh .all trivial) (G.low (r := .all) trivial) (by rw [numKV_len, upTo_len]; (first | lia | omega)) ?_
  rw [numKV_len, upTo_len]; exact h
end
theorem numKV_get {f : Nat → Addr} {l : List Nat} {i : Nat} {k : Int} {v : Value} (h : (numKV f l)[i]? = some (k, v)) : ∃ j, l[i]? = some j ∧ v = .ref (f j) := by
  unfold numKV at h
  rw [List.getElem?_map] at h
  cases hc : l[i]? with
  | none => rw [hc] at h; cases h
  | some j => rw [hc] at h; exact ⟨j, rfl, (Prod.mk.inj (Option.some.inj h)).2.symm⟩
end

section
open PySem PySem.W PySem.Calls PyProof.Rows
section
variable {prog : Program} {w : World} {A : Around} {E : Value → Shared → Prop} {s : Shared} {L D : Addr} {h₀ : Heap} {m : Str → Option Value} {news : List (Addr × Obj)} {vs : List Value} {ns : List Int} {k : Nat} {Q : Value → Shared → Prop}
theorem said_30 : True := by
  k_with "compareOp NotIn int ref" => ((k_here; k_dflt (first | ((with_reducible refine' notin_objs_in ?zqG ?zqN ?zqs ?zqe1 ?_); (k_extra "m_s")) | ((with_reducible refine' notin_objs_out ?zqG ?zqN ?zqs ?zqe1 ?_); (k_extra "m_s")))))
  k_with "call builtin:dict.values" => ((k_here; k_dflt ((with_reducible refine' values_objs ?zqF ?zqN ?zqs ?zqG ?_); (k_extra "m_sk"))))
  k_with "getMethod ref" => ((k_here; k_dflt ((with_reducible refine' meth_objs ?zqG ?zqN ?zqs PySem.F.slot_dict_values PySem.F.type_dict_values ?_); (k_extra "m_s"))))
  k_with "call builtin:len" => ((k_here; k_dflt ((with_reducible refine' len_objs ?zqG ?zqN ?zqs ?zqz1 ?_); (k_extra "m_sw"))))
  k_with "call builtin:len" => ((k_here; k_dflt ((with_reducible refine' len_all ?zqG ?zqN ?zqs ?zqz1 ?_); (k_extra "m_sw"))))
  trivial
/-- «sum(a list of ints)» -/
theorem sum_ints (hh : A.handled = none) (F : Fr h₀ L s.heap m) (N : News h₀ L s.heap news) (hm : (D, PySem.W.listOf vs.toArray k) ∈ news) (hv : IntsAre vs ns)
    (h : ∀ h' tk t', Fr h₀ L h' m → News h₀ L h' news → Q (.int ns.sum t') { s with heap := h', toks := tk }) :
    wpAny (model prog w) A (call (.builtin "sum") [.ref D]) Q E s := by
  obtain ⟨xs, hxs⟩ := hv.allInts.items
  have hl := tl_list N hm
  rw [hxs] at hl
  refine sum_intListG hh hl fun h' tk t' kp => ?_
  have e : preSum (numAt xs) xs.size = ns.sum := by
    have h1 := nums_intItems (xs := xs)
    rw [preSum_eq, List.take_of_length_le (by simp)]
    rw [← hxs, show vs.toArray.toList = vs from rfl, hv.numsOf] at h1
    rw [h1]
  rw [e]
  exact h h' tk t' (F.keeps kp) fun p hp => ⟨kp _ _ (N p hp).1, (N p hp).2⟩
end
theorem paired_none {F : Nat → Value → Prop} {n : Nat} {ys : List Value} (h : Paired F ((List.range n).filter fun _ => false) ys) : ys = [] := by
  have e : ((List.range n).filter fun _ => false) = [] := List.filter_eq_nil_iff.mpr (by simp)
  rw [e] at h
  cases h; rfl
theorem ints_of_paired_at {f : Nat → Int} {l : List Nat} : ∀ {is : List Nat} {ys : List Value}, Paired (fun i y => ∃ j t, l[i]? = some j ∧ y = Value.int (f j) t) is ys → IntsAre ys (is.map fun i => f (l.getD i 0))
 := by
  intro is ys h
  induction h with
  | nil => exact .nil
  | cons h r ih =>
    obtain ⟨j, t, e, rfl⟩ := h
    rw [List.map_cons, List.getD_eq_getElem?_getD, e]
    exact .cons _ t ih
theorem ints_of_paired {f : Nat → Int} {l : List Nat} {ys : List Value} (h : Paired (fun i y => ∃ j t, l[i]? = some j ∧ y = Value.int (f j) t) (List.range l.length) ys) : IntsAre ys (l.map f) := by
  have := ints_of_paired_at h
  have e : ((List.range l.length).map fun i => f (l.getD i 0)) = l.map f := by
    refine List.ext_getElem (by simp) fun i h1 h2 => ?_
    simp at h1
    simp [h1]
  rwa [e] at this
end

section
open PySem PySem.W PySem.Calls PyProof.Rows
variable {w : World} {α : Role → Addr} {ω : Role → Obj} {ο δ : Nat → Addr} {μ : Role → Addr} {σ : Role → Obj} {st : St}
theorem said_31 : True := by
  k_with "call ref" => (((with_reducible refine' hold_in [392, 378, 385, 397, 402, 407, 414, 421, 426] ?zqr ?_); (case zqr => decide)))
  k_with "eval ListComp" => ((refine Hold.mk ?_))
  trivial
/-- a cell of one's own frame lies ahead of the world -/
theorem cell_off {l : List (Addr × Obj)} {L : Addr} (h : ∀ p ∈ l, p.1 < L) : ∀ p ∈ l, p.1 ≠ L + 1 := fun p hp => Nat.ne_of_lt (Nat.lt_succ_of_lt (h p hp))
theorem said_32 : True := by
  k_with "m_updF" => (first | (refine' UpdF.head ?zqa; (case zqa => (first | assumption | (refine cell_off ?_; assumption)))) | (refine' UpdF.tail ?zqa ?zqb; (case zqa => k_ne); (case zqb => (k_extra "m_updF"))))
  k_with "storeName" => ((k_here; k_dflt (refine' storeX_C ?zqF ?zqN ?zqr3 ?zqU1 ?zqa1 ?_ ?zqr1 ?zqr2; (k_extra "m_sk"))))
  trivial
theorem off_cell {l : List (Addr × Obj)} {L : Addr} {o : Obj} (h : ∀ p ∈ l, p.1 < L) : Off [(L + 1, o)] l := fun p hp hq => by
  rw [List.mem_singleton.mp hp] at hq
  obtain ⟨q, hq, e⟩ := List.mem_map.mp hq
  exact cell_off h q hq e
/-- what «_law_held» asks -/
structure Held (st : St) : Prop where
  part : (st.live ++ st.freed).Perm (upTo st.n)
  reach : ∀ i, Reach st.edges i → i ∈ st.live
  total : st.total = ((st.live.map st.size).sum)
  grey : ∀ i ∈ st.grey, st.mark i = 2
theorem sorted_same {R1 R2 A B : List Nat} (p1 : R1.Perm A) (o1 : R1.Pairwise (· ≤ ·)) (p2 : R2.Perm B) (o2 : R2.Pairwise (· ≤ ·)) (h : A.Perm B) : R1 = R2 :=
  (p1.trans (h.trans p2.symm)).eq_of_pairwise (fun _ _ _ _ h1 h2 => Nat.le_antisymm h1 h2) o1 o2
theorem sorted_ne {R1 R2 A B : List Nat} (p1 : R1.Perm A) (o1 : R1.Pairwise (· ≤ ·)) (p2 : R2.Perm B) (o2 : R2.Pairwise (· ≤ ·)) (h : A.Perm B) : false = decide (R1 ≠ R2) := by
  simp [sorted_same p1 o1 p2 o2 h]
section
theorem said_33 : True := by
  k_with "binaryOp Add ref ref" => ((fail_if_success k_extra "m_off6"); (k_here; k_dflt (refine' add_nums ?zqF ?zqN ?zqw1 ?zqw2 ?zqa1 ?zqa2 ?zqz1 ?_; (k_extra "m_sk"))))
  k_with "call builtin:sorted" => ((fail_if_success k_extra "m_off6"); (k_here; k_dflt (first | (refine' sorted_nums ?zqF ?zqN ?zqhm ?zqhv ?zqhz ?_; (case zqF => k_asm); (case zqN => k_asm); (case zqhm => k_mem); (case zqhv => assumption); (case zqhz => (simp only [List.length_append]; omega)); k_whole; intro D' vs' R' c' h' F' N' l1 hv' hp' ho'; (try k_sweep)) | (refine' sorted_keys (R := _) ?zqhh ?zqF ?zqN ?zqhm ?zqhd ?zqhk ?zqlo ?zqhne ?zqhz ?_; (case zqhh => exact rfl); (case zqF => k_asm); (case zqN => k_asm); (case zqhm => (k_extra "m_mem")); (case zqhd => assumption); (case zqhk => exact numKV_keys _ _); (case zqlo => assumption); (case zqhne => assumption); (case zqhz => (rw [upTo_len]; omega)); k_whole; intro D' h' tk' vs' R' c' F' N' l1 hv' hp' ho'; (try k_sweep)))))
  k_with "compareOp NotEq ref ref" => ((fail_if_success k_extra "m_off6"); (k_here; k_dflt (refine' ne_nums ?zqN ?zqk1 ?zqk2 ?zqa1 ?zqa2 ?zqun false ?zqhx ?_; (k_extra "m_s"); (case zqhx => exact sorted_ne (by assumption) (by assumption) (by assumption) (by assumption) (Held.part (by assumption))))))
  k_with "call builtin:sum" => ((fail_if_success k_extra "m_off6"); (k_here; k_dflt (refine' sum_ints ?zqr1 ?zqF ?zqN ?zqk1 ?zqa1 ?_; (k_extra "m_sk"))))
  trivial
theorem refs_len {f : Nat → Addr} {l : List Nat} : (refs f l).length = l.length := by simp [refs]
theorem held_spec (G : Good w α ω ο δ μ σ st) (hw : Wf st) (h1 : 1 ≤ st.n) (hH : Held st) (hgok : ∀ i ∈ st.grey, 1 ≤ i ∧ i ≤ st.n) (hgl : st.grey.length ≤ 1000) :
    Runs w 397 [.ref (α .world)] 200 2000 (ledW α ο δ μ σ st) (fun v news' => news' = ledW α ο δ μ σ st ∧ v = .bool true) := by
  have hsm := hw.small
  have hll : st.live.length ≤ 15 := by
    have := hH.part.length_eq
    rw [List.length_append, upTo_len] at this; omega
  have hlf : st.live.length + st.freed.length ≤ 15 := by
    have := hH.part.length_eq
    rw [List.length_append, upTo_len] at this; omega
  obtain ⟨fvs, ⟨kf, eF⟩, hfn⟩ := G.sh .freed trivial
  have hfr : (μ .freed, PySem.W.listOf fvs.toArray kf) ∈ ledW α ο δ μ σ st := by
    have := mem_led (β := adr α ο δ μ) (σ := σ) (n := st.n) (r := .freed) trivial
    rw [eF] at this; exact this
  have hallM : (α .all, σ .all) ∈ ledW α ο δ μ σ st := mem_led (β := adr α ο δ μ) (σ := σ) (n := st.n) (r := .all) trivial
  have hallD : (σ .all).IsDictOf (iK w) (numKV ο (upTo st.n)) := G.sh .all trivial
  have hallL : (α .all == sysModules) = false := G.low (r := .all) trivial
  have hobj : (α .objs, σ .objs) ∈ ledW α ο δ μ σ st := mem_led (β := adr α ο δ μ) (σ := σ) (n := st.n) (r := .objs) trivial
  have hok : ∀ j ∈ st.live, 1 ≤ j ∧ j ≤ st.n := fun j hj => mem_upTo.mp (hH.part.mem_iff.mp (List.mem_append_left _ hj))
  have hup : upTo st.n ≠ [] := fun e => by have := congrArg List.length e; rw [upTo_len] at this; simp at this; omega
  (k_extra "m_enterC")
  k_steps
  unfold Hold
  (try k_fold)
  rename News _ _ _ _ => N1
  replace N1 := News.sub N1 (fun p hp => List.Mem.tail _ (List.Mem.tail _ (List.Mem.tail _ (List.Mem.tail _ (List.Mem.tail _ hp)))))
  (with_reducible rename Fr _ _ _ _ => F1)
  refine ListComp_TG F1 (by with_unfolding_all rfl) (by decide) (by rfl) (by decide) (by rfl) ?_
  k_steps
  unfold Hold
  (try k_fold)
  rename (∀ p ∈ ledW α ο δ μ σ st, p.1 < _) => l9
  ((refine' Runs.callT (reached_spec G hw h1) (off_cell l9) ?Bq51 ?Fq51 ?Xq51 ?Nq51 ?Tq51 ?hAq51 ?hfq51 ?hkq51 ?hhq51 ?hdq51 ?huq51 ?_; (case Bq51 => k_asm); (case Fq51 => k_asm); (case Xq51 => k_asm); (case Nq51 => (k_extra "m_news")); (case Tq51 => k_asm); (case hAq51 => exact rfl); (case hfq51 => exact rfl); (case hkq51 => exact rfl); (case hhq51 => exact rfl); (case hdq51 => (k_extra "m_room")); (case huq51 => (k_extra "m_units")); k_whole))
  refine kE9 ?_
  intro D vs R c h4 tk4 F4 N4 off4 offD hv hnd hso hR
  (try dsimp only)
  (try k_fold)
  (try dsimp only [List.cons_append, List.nil_append] at N4)
  have hRn : R.length ≤ 15 := by
    have := len_of_sub hnd (L := st.live) fun x hx => hH.reach x ((hR x).mp hx)
    omega
  refine SrcG.list rfl F4 N4 (by k_mem) (by rw [hv.len]; omega) fun g => Mine.CompRestT.read (fun _ => false) (fun _ _ => False) ?_ ?_ ?_
  · exact .tail _ (.head _)
  · intro ys hp
    have : ys = [] := paired_none hp
    subst this
    intro D2 h5 tk5 F5 N5 o1
    k_steps
    unfold Hold
    (try k_fold)
    (with_reducible rename Fr _ _ _ _ => F1)
    refine ListComp_UG F1 (by with_unfolding_all rfl) (by decide) (by rfl) (by decide) (by rfl) ?_
    k_steps
    (with_reducible rename Fr _ _ _ _ => F1)
    (with_reducible rename News _ _ _ _ => N1)
    refine SrcG.values (knd := iK w) rfl F1 N1 (by k_mem) (by (k_extra "m_mem")) (G.sh .objs trivial) (by rw [numKV_len]; omega) fun g => Mine.CompRest.read (fun i y => ∃ j t, st.live[i]? = some j ∧ y = .int (st.size j) t) ?_ ?_ ?_
    · (k_extra "m_mem")
    · intro ys hp
      rw [numKV_len] at hp
      have hys := ints_of_paired hp
      intro D3 h6 tk6 F6 N6 o2
      k_steps
      unfold Hold
      (try k_fold)
      (with_reducible rename Fr _ _ _ _ => F1)
      refine ListComp_TG F1 (by with_unfolding_all rfl) (by decide) (by rfl) (by decide) (by rfl) ?_
      k_steps
      rotate_left
      · exact absurd hH.total (by assumption)
      (with_reducible rename Fr _ _ _ _ => F1)
      (with_reducible rename News _ _ _ _ => N1)
      obtain ⟨kg, hgl⟩ := G.loGrey
      have hgm : (μ .grey, PySem.W.listOf (refs ο st.grey).toArray kg) ∈ ledW α ο δ μ σ st := by
        have := mem_led (β := adr α ο δ μ) (σ := σ) (n := st.n) (r := .grey) trivial
        rw [hgl] at this; exact this
      refine SrcG.list rfl F1 N1 (by (k_extra "m_mem")) (by rw [refs_len]; omega) fun g => Mine.CompRestT.read (fun _ => false) (fun _ _ => False) ?_ ?_ ?_
      · (k_extra "m_mem")
      · intro ys hp
        have : ys = [] := paired_none hp
        subst this
        intro D4 h7 tk7 F7 N7 o3
        k_steps
        (try dsimp only)
        exact Done.intro (by k_asm) (News.sub (by k_asm) (by (k_extra "m_sub"))) ⟨rfl, rfl⟩
      · intro i v I oI C oC D2 ys m₂ h7 tk7 E' hi hv7 hC hx F7 N7 o3 ne
        obtain ⟨j, hj, rfl⟩ := refs_get hv7
        have hjm := hH.grey j (List.mem_of_getElem? hj)
        have hjk := hgok j (List.mem_of_getElem? hj)
        k_steps
        all_goals exact RdEnd.intro (by k_asm) (by k_asm) (by (k_extra "m_sub"))
    · intro i v I oI C oC D ys m₂ h6 tk6 E' hi hv6 hC hx F6 N6 o3 ne
      obtain ⟨k, hk⟩ := hv6
      obtain ⟨j, hj, rfl⟩ := numKV_get hk
      have hjk := hok j (List.mem_of_getElem? hj)
      k_steps
      exact RdEnd.intro (by k_asm) (by k_asm) (by (k_extra "m_sub"))
  · intro i v I oI C oC D2 ys m₂ h5 tk5 E' hi hv5 hC hx F5 N5 o3 ne
    obtain ⟨j, t, hj, rfl⟩ := hv.get hv5
    have hjl : j ∈ st.live := hH.reach j ((hR j).mp (List.mem_of_getElem? hj))
    k_steps
    exact RdEnd.intro (by k_asm) (by k_asm) (by (k_extra "m_sub"))
end
end

section
open PySem PySem.W PySem.Calls PySem.Spec PyProof.Rows PyProof.Rows.LCg PyProof.Rows.LCt
section
variable {w : World} {A : Around} {E : Value → Shared → Prop} {s : Shared} {L D : Addr} {h₀ : Heap} {m : Str → Option Value} {news : List (Addr × Obj)} {vs us : List Value} {k kb : Nat} {b : Addr}
theorem said_34 : True := by
  k_with "m_off6" => (skip)
  trivial
/-- lists of another length -/
theorem ne_len {Q : Value → Shared → Prop} (N : News h₀ L s.heap news) (hm : (D, PySem.W.listOf vs.toArray k) ∈ news) (hb : (b, PySem.W.listOf us.toArray kb) ∈ news) (hz : vs.length ≠ us.length) (hc : A.units < cLine) (h : Q (.bool true) s) :
    wpAny (model PP w) A (compareOp .NotEq (.ref D) (.ref b)) Q E s :=
  PySem.SeqAt.RcNeAt.lists_lengths (tl_list N hm) (tl_list N hb) (by simpa using hz) hc _ _ _ _ h
theorem eq_len {Q : Value → Shared → Prop} (N : News h₀ L s.heap news) (hm : (D, PySem.W.listOf vs.toArray k) ∈ news) (hb : (b, PySem.W.listOf us.toArray kb) ∈ news) (hz : vs.length ≠ us.length) (hc : A.units < cLine) (h : Q (.bool false) s) :
    wpAny (model PP w) A (compareOp .Eq (.ref D) (.ref b)) Q E s := by
  obtain ⟨⟨cls, dd, data, sl⟩, ho, hcl, n, hd⟩ := tl_list N hm
  obtain ⟨⟨cls2, dd2, data2, sl2⟩, ho2, hcl2, n2, hd2⟩ := tl_list N hb
  simp only at hcl hd hcl2 hd2
  have e1 := (N _ hm).1
  have e2 := (N _ hb).1
  exact PySem.P.eq_list_lengths (items := vs.toArray) (items2 := us.toArray) e1 e2 (by simpa using hz) hc h
/-- «dict(a list of pairs)» -/
theorem dict_pairs {l : Addr} {ys : List Value} {kvs : List (Int × Value)} {Q : Value → Shared → Prop} (hh : A.handled = none) (F : Fr h₀ L s.heap m) (N : News h₀ L s.heap news) (hm : (l, lst ys) ∈ news) (hlen : kvs.length = ys.length) (hz : ys.length ≤ 10000) (hnd : (kvs.map (·.1)).Nodup)
    (items : ∀ (i : Nat) (v : Value), ys[i]? = some v → ∃ p, kvs[i]? = some p ∧ ∃ T key n, v = .ref T ∧ (T, ({ cls := .type "tuple", data := .seq #[key, p.2] n } : Obj)) ∈ news ∧ (iK w).is p.1 key = true)
    (h : ∀ D o h' tk, Fr h₀ L h' m → News h₀ L h' ((D, o) :: news) → (∀ q ∈ news, q.1 < D) → o.IsDictOf (iK w) kvs → Q (.ref D) { s with heap := h', toks := tk }) :
    wpAny (model PP w) A (call (.type "dict") [.ref l]) Q E s := by
  have e0 := (N _ hm).1
  refine md_call (knd := iK w) (kvs := kvs) (vs := ys.toArray) hh ⟨_, e0, rfl, _, rfl⟩ (fun o e => by rw [e0] at e; cases e; rfl) (by rw [List.size_toArray, sizeLine_eq]; (first | lia | omega)) (by rw [List.size_toArray]; exact hlen) hnd ?_ ?_
  · intro i v hv
    obtain ⟨p, hp, T, key, n, rfl, hT, hk⟩ := items i v (by simpa using hv)
    exact ⟨p, hp, T, key, _, n, rfl, (N _ hT).1, rfl, rfl, hk⟩
  · intro h' tk kp hd
    obtain ⟨o, ho, hd⟩ := Heap.dictOf_iff.mp hd
    refine h _ o h' tk (F.keeps kp) (fun p hp => ?_) (fun q hq => Heap.lt_size (N q hq).1) hd
    rcases List.mem_cons.mp hp with rfl | hp
    · exact ⟨ho, (Nat.ne_of_lt F.ns.lt).symm, next_is_new F⟩
    · exact ⟨kp _ _ (N p hp).1, (N p hp).2⟩
end
section
variable {prog : Program} {w : World} {A : Around} {E : Value → Shared → Prop} {s : Shared} {h₀ : Heap} {L : Addr} {m : Str → Option Value} {env : Env}
/-- a turn that makes a pair, its end -/
noncomputable def PrEnd (h₀ : Heap) (L : Addr) (m : Str → Option Value) (s : Shared) (all : List (Addr × Obj)) (j : Nat) (f : Nat → Int) (y : Value) (s' : Shared) : Prop :=
  ∃ T t u n h' tk', y = .ref T ∧ s' = { s with heap := h', toks := tk' } ∧ Fr h₀ L h' m ∧ News h₀ L h' ((T, ({ cls := .type "tuple", data := .seq #[.int (j : Int) t, .int (f j) u] n } : Obj)) :: all) ∧ ∀ q ∈ all, q.1 < T
theorem PrEnd.intro {s : Shared} {all : List (Addr × Obj)} {j : Nat} {f : Nat → Int} {T : Addr} {t u : Tok} {n : Nat} {h' : Heap} {tk' : Nat} {all' : List (Addr × Obj)} (F : Fr h₀ L h' m) (N : News h₀ L h' all')
    (hT : (T, ({ cls := .type "tuple", data := .seq #[.int (j : Int) t, .int (f j) u] n } : Obj)) ∈ all') (hs : ∀ p ∈ all, p ∈ all') (hl : ∀ q ∈ all, q.1 < T) : PrEnd h₀ L m s all j f (.ref T) { s with heap := h', toks := tk' } :=
  ⟨T, t, u, n, h', tk', rfl, rfl, F, fun p hp => by
    rcases List.mem_cons.mp hp with rfl | hp
    · exact N _ hT
    · exact N _ (hs p hp), hl⟩
/-- pairs in the ledger -/
inductive PairsAre (f : Nat → Int) : List Nat → List Value → List (Addr × Obj) → Prop
  | nil : PairsAre f [] [] []
  | snoc {l ys ts} (j : Nat) (T : Addr) (t u : Tok) (n : Nat) : PairsAre f l ys ts → PairsAre f (l ++ [j]) (ys ++ [.ref T]) ((T, ({ cls := .type "tuple", data := .seq #[.int (j : Int) t, .int (f j) u] n } : Obj)) :: ts)
theorem KcpRest.pairs {elt : PySem.Expr} {a b : Str} {scope : Scope} {cl : List (Str × Addr)} {d : Addr} {od : Obj} {Fin : List Value → List (Addr × Obj) → Prop} {news : List (Addr × Obj)} {ο : Nat → Addr} {l : List Nat} (f : Nat → Int)
    (hd : (d, od) ∈ news)
    (turn : ∀ j ∈ l, ∀ t I oI C oC D ys ts m₂ h tk (E' : Value → Shared → Prop), NsObj oC m₂ → m₂ a = some (.int (j : Int) t) → m₂ b = some (.ref (ο j)) → Fr h₀ L h m → News h₀ L h ((I, oI) :: (C, oC) :: (D, lst ys) :: (ts ++ news)) →
      wpAny (model prog w) A (eval elt (compEnvC scope cl C env)) (PrEnd h₀ L m { s with heap := h, toks := tk } ((I, oI) :: (C, oC) :: (D, lst ys) :: (ts ++ news)) j f) E' { s with heap := h, toks := tk })
    (fin : ∀ ys ts, PairsAre f l ys ts → Fin ys (ts ++ news)) :
    KcpRest prog w A h₀ L m env elt a b scope cl s (KcpAt d od) Fin (l.map fun (j : Nat) => ((fun t => Value.int (j : Int) t), .ref (ο j))) [] news := by
  have key : ∀ (r p : List Nat) ys ts, p ++ r = l → PairsAre f p ys ts → KcpRest prog w A h₀ L m env elt a b scope cl s (KcpAt d od) Fin (r.map fun (j : Nat) => ((fun t => Value.int (j : Int) t), .ref (ο j))) ys (ts ++ news) := by
    intro r
    induction r with
    | nil => intro p ys ts hp hP; rw [List.append_nil] at hp; subst hp; exact fin ys ts hP
    | cons j r ih =>
      intro p ys ts hp hP
      refine KcpRest.cons fun t I oI C oC D m₂ h tk E' hC ha hb F N o3 ne => ?_
      refine wpAny_mono (turn j (by rw [← hp]; simp) t I oI C oC D ys ts m₂ h tk E' hC ha hb F N) (fun y s'' hy => ?_) fun _ _ e => e
      obtain ⟨T, t, u, n, h', tk', rfl, rfl, F', N', hl⟩ := hy
      refine ⟨h', tk', (T, _) :: (ts ++ news), rfl, F', fun q hq => N' q ?_, ⟨⟨?_, ?_, ?_⟩, o3⟩, .inr ⟨od, .tail _ (List.mem_append_right _ hd), rfl, 0, rfl⟩, ih (p ++ [j]) _ (_ :: ts) (by rw [← hp]; simp) (.snoc j T t u n hP)⟩
      · rcases List.mem_cons.mp hq with rfl | hq
        · exact .tail _ (.head _)
        rcases List.mem_cons.mp hq with rfl | hq
        · exact .tail _ (.tail _ (.head _))
        rcases List.mem_cons.mp hq with rfl | hq
        · exact .tail _ (.tail _ (.tail _ (.head _)))
        rcases List.mem_cons.mp hq with rfl | hq
        · exact .head _
        · exact .tail _ (.tail _ (.tail _ (.tail _ hq)))
      · exact Nat.ne_of_gt (hl _ (.head _))
      · exact Nat.ne_of_gt (hl _ (.tail _ (.head _)))
      · exact Nat.ne_of_gt (hl _ (.tail _ (.tail _ (.head _))))
  exact key l [] [] [] rfl .nil
end
section
variable {prog : Program} {w : World} {A : Around} {E : Value → Shared → Prop} {s : Shared} {env : Env} {h₀ : Heap} {body : List Stmt} {Q : Flow → Shared → Prop}
/-- a turn over pairs that only reads, its end -/
noncomputable def ItEnd (h₀ : Heap) (L : Addr) (s : Shared) (J : (Str → Option Value) → Prop) (all : List (Addr × Obj)) (fl : Flow) (s' : Shared) : Prop :=
  fl = .next ∧ ∃ h' tk' m', s' = { s with heap := h', toks := tk' } ∧ Fr h₀ L h' m' ∧ News h₀ L h' all ∧ J m'
theorem ItEnd.intro {L : Addr} {s : Shared} {J : (Str → Option Value) → Prop} {all all' : List (Addr × Obj)} {h' : Heap} {tk' : Nat} {m' : Str → Option Value} (F : Fr h₀ L h' m') (N : News h₀ L h' all') (hs : ∀ p ∈ all, p ∈ all') (hJ : J m') :
    ItEnd h₀ L s J all .next { s with heap := h', toks := tk' } := ⟨rfl, h', tk', m', rfl, F, News.sub N hs, hJ⟩
theorem ItemsRest.pairs {kvs : List (Int × Value)} {a b : Str} {pa pb tp : Pos} {kk : Nat} {I d : Addr} {od : Obj} {news : List (Addr × Obj)} {m : Str → Option Value} (J : (Str → Option Value) → Prop) (hh : A.handled = none)
    (ha : env.kindOf a = some .local) (hb : env.kindOf b = some .local) (hp : (env.scope.kind == .class || (env.scope.kind == .module && env.locals != env.globals)) = false)
    (hd : (d, od) ∈ news) (hI : ∀ p ∈ news, p.1 < I) (hJ : J m)
    (turn : ∀ p ∈ kvs, ∀ t m₁ oI h tk, J m₁ → Fr h₀ env.locals h (fun z => if z = b then some p.2 else if z = a then some (.int p.1 t) else m₁ z) → News h₀ env.locals h ((I, oI) :: news) →
      wpAny (model prog w) A (execs body env) (ItEnd h₀ env.locals { s with heap := h, toks := tk } J ((I, oI) :: news)) E { s with heap := h, toks := tk })
    (done : ∀ m' h tk, J m' → Fr h₀ env.locals h m' → News h₀ env.locals h news → Q .next { s with heap := h, toks := tk }) :
    ItemsRest prog w A E h₀ env (.Tuple [.Name a pa, .Name b pb] kk tp) body Q s [(I, "dict_itemiterator")] [(d, od)] (kvs.map fun p => Itm.pair (kyVal (PyData.int p.1)) p.2) m news := by
  have key : ∀ (r : List (Int × Value)) (m : Str → Option Value), (∀ p ∈ r, p ∈ kvs) → J m → ItemsRest prog w A E h₀ env (.Tuple [.Name a pa, .Name b pb] kk tp) body Q s [(I, "dict_itemiterator")] [(d, od)] (r.map fun p => Itm.pair (kyVal (PyData.int p.1)) p.2) m news := by
    intro r
    induction r with
    | nil => intro m _ hJ h tk F N; exact done m h tk hJ F N
    | cons p r ih =>
      intro m hr hJ
      refine ItemsRest.pair fun T t h tk hT F => AllObj.cons fun o ho => AllObj.nil fun N => ?_
      have hT' : h.IsTuple T #[.int p.1 t, p.2] := hT
      refine kcp_assign hh hT' ha hb hp F.ns fun h' tk' hn hk => ?_
      have hL₀ : h₀.get? env.locals = none := Heap.get?_none_of_le F.above
      have F' : Fr h₀ env.locals h' (fun z => if z = b then some p.2 else if z = a then some (.int p.1 t) else m z) := ⟨hn, fun c o e => hk c o (fun q => by rw [q, hL₀] at e; cases e) (F.keep c o e), F.above⟩
      have N' : News h₀ env.locals h' ((I, o) :: news) := fun q hq => ⟨hk _ _ (N q hq).2.1 (N q hq).1, (N q hq).2⟩
      refine wpAny_mono (turn p (hr p (.head _)) t m o h' tk' hJ F' N') (fun fl s₂ hf => ?_) fun _ _ e => e
      obtain ⟨rfl, h₂, tk₂, m', rfl, F₂, N₂, hJ₂⟩ := hf
      refine ⟨h₂, tk₂, m', news, rfl, F₂, N₂, ?_, ⟨hd, trivial⟩, ih m' (fun q hq => hr q (.tail _ hq)) hJ₂⟩
      intro q hq i hi e
      rw [List.mem_singleton.mp hi] at e
      exact absurd (hI q hq) (by rw [e]; exact Nat.lt_irrefl _)
  exact key kvs m (fun _ h => h) hJ
end
section
variable {prog : Program} {w : World} {A : Around} {E : Value → Shared → Prop} {s : Shared} {h₀ : Heap} {L : Addr} {m : Str → Option Value} {env : Env}
theorem Assign_ListComp_TG {ct elt iter : PySem.Expr} {x y : Str} {px py : Pos} {scope : Scope} {cl : List (Str × Addr)} {pos spos : Pos} {Q : Flow → Shared → Prop} (F₀ : Fr h₀ L s.heap m) (hLe : env.locals = L)
    (hsw : swapsWith (.ListComp elt [⟨.Name x px, iter, [ct], 0⟩] scope pos) (some (.Name y py)) spos.line env = pure true)
    (hclos : closureFor scope env = pure cl) (hcell : ∀ z ∈ scope.names, z.2 ≠ .cell) (hkind : scope.kind = .function)
    (hnames : ∀ z ∈ scope.names, z.2 = .local → scope.names.lookup z.1 = some .local) (hx : scope.names.lookup x = some .local)
    (hy : env.kindOf y = some .local) (hp : (env.scope.kind == .class || (env.scope.kind == .module && env.locals != env.globals)) = false)
    (h : wpAny (model prog w) A (eval iter env) (SrcG prog w A h₀ L m (fun s₂ S P n news => CompRestT prog w A h₀ L m env ct elt x scope cl s₂ S P (FinA h₀ L m s₂ y Q) n 0 [] news)) E s)
    (hs : ∀ x, foldedSetIterable iter env x = pure x := by intro _; rfl) :
    wpAny (model prog w) A (exec (.Assign [.Name y py] (.ListComp elt [⟨.Name x px, iter, [ct], 0⟩] scope pos) spos) env) Q E s := by
  subst hLe
  rw [exec_Assign_Name_used _ _ _ _ hsw]
  refine wpAny_bind (wpAny_standAt (wpAny_bind ?_))
  show wpAny _ A (do let _ ← comprehension (.ListComp elt [⟨.Name x px, iter, [ct], 0⟩] scope pos) scope env _ (newList []) false (eval iter env) (some (assign (.Name y py) env))) _ _ s
  refine wpAny_bind (wpAny_mono (wpAny_comprehension_free (use := some (assign (.Name y py) env)) (Q := fun _ s' => Q .next s') rfl hs hclos hkind hnames
    (wpAny_mono h (fun xv s₁ h₁ => ?_) fun _ _ e => e)) (fun _ s' hq => wpAny_pure (wpAny_pure hq)) fun _ _ e => e)
  obtain ⟨io, fp, n, P, St, S, news, hit, W, hsz, hIo, hSt, hst, hfp, F, N, hS, R⟩ := h₁
  refine hit _ _ ?_
  refine block_T W hsz hIo hSt hcell hkind hx hst hfp (F.push _) (fun p hp => ⟨Heap.get?_push_of_some _ (N p hp).1, (N p hp).2⟩) (Nat.ne_of_lt F.ns.lt) (next_is_new F) (fun p hp => Nat.ne_of_lt (Heap.lt_size (N p hp).1)) hS (R _) ?_
  intro D C h' tk m' ys news' F' N' o1 hn hC₀ hD₀ hCL hDL hCD offC fin
  show wpAny _ A (assign (.Name y py) env (.ref D)) _ _ _
  refine wpAny_assign_Name (wpAny_storeName_local hy F'.ns (fun h₂ hn₂ hs₂ => ?_) hp)
  have hL₀ : h₀.get? env.locals = none := Heap.get?_none_of_le F'.above
  have F₂ : Fr h₀ env.locals h₂ (fun z => if z = y then some (.ref D) else m z) := ⟨hn₂, fun b o e => hs₂.extBut b o (fun q => by rw [q, hL₀] at e; cases e) (F'.keep b o e), F'.above⟩
  refine ⟨m', hn.sameBut hs₂ hCL, fun h'' hs'' => fin D h'' _ (F₂.change hs'' hCL hC₀) (fun p hp => ?_) o1⟩
  have z : h₂.get? p.1 = some p.2 := hs₂.extBut _ _ (N' p hp).2.1 (N' p hp).1
  refine ⟨hs''.extBut _ _ ?_ z, (N' p hp).2⟩
  rcases List.mem_cons.mp hp with rfl | hp
  · exact Ne.symm hCD
  · exact offC p hp
end
theorem nums_of_paired_at {l : List Nat} : ∀ {is : List Nat} {ys : List Value}, Paired (fun i y => ∃ j t, l[i]? = some j ∧ y = Value.int (j : Nat) t) is ys → Nums ys (is.map fun i => l.getD i 0)
 := by
  intro is ys h
  induction h with
  | nil => exact .nil
  | cons h r ih =>
    obtain ⟨j, t, e, rfl⟩ := h
    rw [List.map_cons, List.getD_eq_getElem?_getD, e]
    exact .cons _ t ih
theorem range_filter_map (l : List Nat) (p : Nat → Bool) : ((List.range l.length).filter fun i => p (l.getD i 0)).map (fun i => l.getD i 0) = l.filter p := by
  rw [show ((List.range l.length).filter fun i => p (l.getD i 0)) = ((List.range l.length).filter (p ∘ fun i => l.getD i 0)) from rfl, ← List.filter_map]
  congr 1
  refine List.ext_getElem (by simp) fun i h1 h2 => ?_
  simp at h1
  simp [h1]
theorem nums_of_paired {l : List Nat} {ys : List Value} {p : Nat → Bool} {keep : Nat → Bool} (hk : ∀ i, keep i = p (l.getD i 0)) (h : Paired (fun i y => ∃ j t, l[i]? = some j ∧ y = Value.int (j : Nat) t) ((List.range l.length).filter keep) ys) : Nums ys (l.filter p) := by
  have e : keep = fun i => p (l.getD i 0) := funext hk
  subst e
  rw [← range_filter_map l p]
  exact nums_of_paired_at h
theorem PairsAre.len {f : Nat → Int} {l : List Nat} {ys : List Value} {ts : List (Addr × Obj)} (h : PairsAre f l ys ts) : ys.length = l.length := by
  induction h with
  | nil => rfl
  | snoc j T t u n _ ih => rw [List.length_append, List.length_append, ih]; rfl
theorem sortKV_app {f : Nat → Int} {l : List Nat} {kvs : List (Int × Value)} (h : SortKV f l kvs) (j : Nat) (u : Tok) : SortKV f (l ++ [j]) (kvs ++ [((j : Int), .int (f j) u)]) := by
  induction h with
  | nil => exact .cons j u .nil
  | cons i t _ ih => exact .cons i t ih
theorem sortKV_keys {f : Nat → Int} {l : List Nat} {kvs : List (Int × Value)} (h : SortKV f l kvs) : kvs.map (·.1) = l.map (fun (i : Nat) => (i : Int)) := by
  induction h with
  | nil => rfl
  | cons i t _ ih => rw [List.map_cons, List.map_cons, ih]
theorem PairsAre.kvs {f : Nat → Int} {l : List Nat} {ys : List Value} {ts : List (Addr × Obj)} (h : PairsAre f l ys ts) : ∃ kvs, SortKV f l kvs ∧ kvs.length = ys.length ∧
    ∀ (w : World) (i : Nat) (v : Value), ys[i]? = some v → ∃ p, kvs[i]? = some p ∧ ∃ T key n, v = .ref T ∧ (T, ({ cls := .type "tuple", data := .seq #[key, p.2] n } : Obj)) ∈ ts ∧ (iK w).is p.1 key = true := by
  induction h with
  | nil => exact ⟨[], .nil, rfl, fun _ _ _ h => by simp at h⟩
  | @snoc l ys ts j T t u n hP ih =>
    obtain ⟨kvs, hk, hl, hi⟩ := ih
    refine ⟨kvs ++ [((j : Int), .int (f j) u)], sortKV_app hk j u, by rw [List.length_append, List.length_append, hl]; rfl, fun w i v hv => ?_⟩
    by_cases h : i < ys.length
    · rw [List.getElem?_append_left h] at hv
      obtain ⟨p, hp, T', key, n', e, hT, hkey⟩ := hi w i v hv
      exact ⟨p, by rw [List.getElem?_append_left (by rw [hl]; exact h)]; exact hp, T', key, n', e, .tail _ hT, hkey⟩
    · rw [List.getElem?_append_right (by (first | lia | omega))] at hv
      have h0 : i - ys.length = 0 := by
        cases q : i - ys.length with
        | zero => rfl
        | succ a => rw [q] at hv; simp at hv
      rw [h0] at hv
      have hv' : v = .ref T := (Option.some.inj hv).symm
      refine ⟨((j : Int), .int (f j) u), ?_, T, _, n, hv', .head _, intKind_is _ _ j t⟩
      rw [List.getElem?_append_right (by (first | lia | omega)), hl, h0]; rfl
end

section
open PySem PySem.W PySem.Calls PyProof.Rows PyProof.Rows.LCg PyProof.Rows.LCt
section
variable {prog : Program} {w : World} {A : Around} {E : Value → Shared → Prop} {s : Shared} {h₀ : Heap} {L : Addr} {m : Str → Option Value} {news : List (Addr × Obj)} {K : Type} [DecidableEq K] {knd : KeyKind prog w K} {kvs : List (K × Value)} {d : Addr} {o : Obj} {Q : Value → Shared → Prop}
theorem view_items (F : Fr h₀ L s.heap m) (N : News h₀ L s.heap news) (hp : (d, o) ∈ news) (hd : o.IsDictOf knd kvs) (lo : (d == sysModules) = false)
    (h : ∀ (D : Addr) h', Fr h₀ L h' m → News h₀ L h' ((D, { cls := .type "dict_items", data := .fields #[.ref d] }) :: news) → (∀ q ∈ news, q.1 < D) → Q (.ref D) { s with heap := h' }) :
    wpAny (model prog w) A (call (.builtin "dict.items") [.ref d]) Q E s :=
  have hD := kda_dict N hp hd
  call_meetsIn PySem.F.slot_dict_items hD.typeIs PySem.F.entry_dict_items (PySem.F.args_dict_items_1 _) (meets_dict_items knd d lo) ⟨⟨kvs, hD⟩, h _ _ (F.push _) (News.push F N _) fun q hq => Heap.lt_size (N q hq).1⟩
end
section
variable {w : World} {A : Around} {E : Value → Shared → Prop} {s : Shared} {L : Addr} {h₀ h : Heap} {m : Str → Option Value} {news tmp : List (Addr × Obj)}
  {α : Role → Addr} {ω : Role → Obj} {ο δ : Nat → Addr} {μ : Role → Addr} {σ : Role → Obj} {st : St} {t : Tok} {Q : Value → Shared → Prop} {i : Nat}
theorem items_objs (F : Fr h₀ L s.heap m) (N : News h₀ L s.heap news) (hs : ∀ p ∈ ledW α ο δ μ σ st, p ∈ news) (G : Good w α ω ο δ μ σ st)
    (h : ∀ (D : Addr) h', Fr h₀ L h' m → News h₀ L h' ((D, { cls := .type "dict_items", data := .fields #[.ref (α .objs)] }) :: news) → (∀ q ∈ news, q.1 < D) → Q (.ref D) { s with heap := h' }) :
    wpAny (model PP w) A (call (.builtin "dict.items") [.ref (α .objs)]) Q E s :=
  view_items (knd := iK w) F N (hs _ (mem_led (β := adr α ο δ μ) (r := .objs) trivial)) (G.sh .objs trivial) (G.low (r := .objs) trivial) h
end
theorem coll4 {n1 n2 b a : Str} {x1 x2 x3 x4 u1 u2 u3 u4 : Option Value} {m : Str → Option Value} :
    (fun z => if z = n1 then x1 else if z = n2 then x2 else if z = b then x3 else if z = a then x4 else if z = n1 then u1 else if z = n2 then u2 else if z = b then u3 else if z = a then u4 else m z) =
      fun z => if z = n1 then x1 else if z = n2 then x2 else if z = b then x3 else if z = a then x4 else m z := by
  funext z
  by_cases h1 : z = n1
  · simp [h1]
  by_cases h2 : z = n2
  · simp [h2]
  by_cases h3 : z = b
  · simp [h3]
  by_cases h4 : z = a
  · simp [h4]
  simp only [h1, h2, h3, h4, if_false]
section
variable {prog : Program} {w : World} {A : Around} {E : Value → Shared → Prop} {s : Shared} {env : Env} {h₀ : Heap} {body : List Stmt} {Q : Flow → Shared → Prop}
theorem ItemsRest.pairs2 {kvs : List (Int × Value)} (n1 n2 : Str) {a b : Str} {pa pb tp : Pos} {kk : Nat} {I d : Addr} {od : Obj} {news : List (Addr × Obj)} {m : Str → Option Value} (hh : A.handled = none)
    (ha : env.kindOf a = some .local) (hb : env.kindOf b = some .local) (hp : (env.scope.kind == .class || (env.scope.kind == .module && env.locals != env.globals)) = false)
    (hd : (d, od) ∈ news) (hI : ∀ p ∈ news, p.1 < I)
    (turn : ∀ p ∈ kvs, ∀ t u1 u2 u3 u4 oI h tk, Fr h₀ env.locals h (fun z => if z = b then some p.2 else if z = a then some (.int p.1 t) else if z = n1 then u1 else if z = n2 then u2 else if z = b then u3 else if z = a then u4 else m z) → News h₀ env.locals h ((I, oI) :: news) →
      wpAny (model prog w) A (execs body env) (ItEnd h₀ env.locals { s with heap := h, toks := tk } (fun m' => ∃ u1 u2 u3 u4, m' = fun z => if z = n1 then u1 else if z = n2 then u2 else if z = b then u3 else if z = a then u4 else m z) ((I, oI) :: news)) E { s with heap := h, toks := tk })
    (done : ∀ u1 u2 u3 u4 h tk, Fr h₀ env.locals h (fun z => if z = n1 then u1 else if z = n2 then u2 else if z = b then u3 else if z = a then u4 else m z) → News h₀ env.locals h news → Q .next { s with heap := h, toks := tk }) :
    ItemsRest prog w A E h₀ env (.Tuple [.Name a pa, .Name b pb] kk tp) body Q s [(I, "dict_itemiterator")] [(d, od)] (kvs.map fun p => Itm.pair (kyVal (PyData.int p.1)) p.2) m news := by
  refine ItemsRest.pairs (fun m' => ∃ u1 u2 u3 u4, m' = fun z => if z = n1 then u1 else if z = n2 then u2 else if z = b then u3 else if z = a then u4 else m z) hh ha hb hp hd hI ⟨m n1, m n2, m b, m a, ?_⟩ ?_ ?_
  · funext z
    split
    · rename_i h; rw [h]
    split
    · rename_i h; rw [h]
    split
    · rename_i h; rw [h]
    split
    · rename_i h; rw [h]
    rfl
  · rintro p hp t m₁ oI h tk ⟨u1, u2, u3, u4, rfl⟩ F N
    exact turn p hp t u1 u2 u3 u4 oI h tk F N
  · rintro m' h tk ⟨u1, u2, u3, u4, rfl⟩ F N
    exact done u1 u2 u3 u4 h tk F N
end
theorem off_move {tmp : List (Addr × Obj)} {β : Role → Addr} {σ σ' : Role → Obj} {n : Nat} {r : Role} {l : Addr} (off : Off tmp (led β σ n)) (hlt : ∀ p ∈ tmp, p.1 < l) : Off tmp (led (upd β r l) σ' n) := fun p hp hq => by
  obtain ⟨q, hq, e⟩ := List.mem_map.mp hq
  obtain ⟨x, hx, rfl⟩ := of_led hq
  by_cases h : x = r
  · subst h
    dsimp only at e
    rw [upd_self] at e
    exact Nat.lt_irrefl _ (e ▸ hlt p hp)
  · dsimp only at e
    rw [upd_ne _ _ h] at e
    exact off.ne hx p hp e.symm
theorem news_move {tmp : List (Addr × Obj)} {β : Role → Addr} {σ σ' : Role → Obj} {n : Nat} {r : Role} {l : Addr} {o : Obj} : ∀ p ∈ tmp ++ led (upd β r l) (upd σ' r o) n, p ∈ ((l, o) :: tmp) ++ led β σ' n := fun p hp => by
  rcases List.mem_append.mp hp with h | h
  · exact .tail _ (List.mem_append_left _ h)
  · rcases List.mem_cons.mp (led_move p h) with h | h
    · rw [h]; exact .head _
    · exact .tail _ (List.mem_append_right _ h)
section
variable {w : World} {A : Around} {E : Value → Shared → Prop} {s : Shared} {L : Addr} {h₀ h : Heap} {m : Str → Option Value} {news tmp : List (Addr × Obj)}
  {α : Role → Addr} {ω : Role → Obj} {ο δ : Nat → Addr} {μ : Role → Addr} {σ : Role → Obj} {st : St}
theorem set_freedT {l : Addr} {k : Nat} {vs : List Value} {ns : List Nat} {u : Tok} {Q : Unit → Shared → Prop} (F : Fr h₀ L s.heap m) (N : News h₀ L s.heap ((l, PySem.W.listOf vs.toArray k) :: (tmp ++ ledW α ο δ μ σ st))) (hlt : ∀ p ∈ tmp ++ ledW α ο δ μ σ st, p.1 < l) (off : Off tmp (ledW α ο δ μ σ st)) (G : Good w α ω ο δ μ σ st) (hN : Nums vs ns)
    (h : ∀ h' σ', Fr h₀ L h' m → News h₀ L h' (tmp ++ ledW α ο δ (upd μ .freed l) σ' (st.setFreed ns)) → Off tmp (ledW α ο δ (upd μ .freed l) σ' (st.setFreed ns)) → Good w α ω ο δ (upd μ .freed l) σ' (st.setFreed ns) → Q () { s with heap := h', toks := s.toks + 1 }) :
    wpAny (model PP w) A (setItem (.ref (α .world)) (.str "freed" u) (.ref l)) Q E s := by
  have hlw : ∀ p ∈ ledW α ο δ μ σ st, p.1 < l := fun p hp => hlt p (List.mem_append_right _ hp)
  have hlt' : ∀ x, Role.ok st.n x → adr α ο δ μ x < l := fun x hx => hlw _ (mem_led hx)
  have hd := G.sh .world trivial
  have off' : Off ((l, PySem.W.listOf vs.toArray k) :: tmp) (ledW α ο δ μ σ st) := fun p hp => by
    rcases List.mem_cons.mp hp with rfl | hp
    · exact off_new hlw _ (.head _)
    · exact off p hp
  refine kda_set (knd := sK w) F N (updF_tmp (tmp := (l, PySem.W.listOf vs.toArray k) :: tmp) (off'.ne (r := .world) trivial) (led_updF G.inj (r := .world) trivial)) hd (strKind_is _ _ _ _) (by rw [sizeLine_eq]; exact Nat.le_of_ble_eq_true rfl) fun h' o' F' N' hd' => ?_
  have e1 : stored (worldKV α μ) (Str.ofString "freed") (.ref l) = worldKV α (upd μ .freed l) := rfl
  rw [e1] at hd'
  refine h h' (upd (upd σ .world o') .freed (PySem.W.listOf vs.toArray k)) F' (News.sub N' ?_) ?_ (G.move rfl (adr_freed l) hlt' (by decide) ⟨vs, ⟨k, rfl⟩, hN⟩ hd' (fun x o h1 h2 hS => by cases x <;> first | exact hS | exact absurd rfl h1 | exact absurd rfl h2))
  · show ∀ p ∈ tmp ++ led (adr α ο δ (upd μ .freed l)) _ st.n, _
    rw [adr_freed]; exact news_move (σ := σ)
  · show Off tmp (led (adr α ο δ (upd μ .freed l)) _ st.n)
    rw [adr_freed]; exact off_move off fun p hp => hlt p (List.mem_append_left _ hp)
theorem set_edgesT {i : Nat} {l : Addr} {k : Nat} {vs : List Value} {ns : List Nat} {u : Tok} {Q : Unit → Shared → Prop} (F : Fr h₀ L s.heap m) (N : News h₀ L s.heap ((l, PySem.W.listOf vs.toArray k) :: (tmp ++ ledW α ο δ μ σ st))) (hlt : ∀ p ∈ tmp ++ ledW α ο δ μ σ st, p.1 < l) (off : Off tmp (ledW α ο δ μ σ st)) (G : Good w α ω ο δ μ σ st) (hi : st.ok i) (hn : st.n ≤ 1000) (hpe : st.pe ≤ 1000) (hN : Nums vs ns)
    (h : ∀ h' σ', Fr h₀ L h' m → News h₀ L h' (tmp ++ ledW α ο δ (upd μ (.edge i) l) σ' (st.setEdge i ns)) → Off tmp (ledW α ο δ (upd μ (.edge i) l) σ' (st.setEdge i ns)) → Good w α ω ο δ (upd μ (.edge i) l) σ' (st.setEdge i ns) → Q () { s with heap := h', toks := s.toks + 1 }) :
    wpAny (model PP w) A (setItem (.ref (α .edges)) (.int (i : Int) u) (.ref l)) Q E s := by
  have hlw : ∀ p ∈ ledW α ο δ μ σ st, p.1 < l := fun p hp => hlt p (List.mem_append_right _ hp)
  have hlt' : ∀ x, Role.ok st.n x → adr α ο δ μ x < l := fun x hx => hlw _ (mem_led hx)
  have hd := G.sh .edges trivial
  have off' : Off ((l, PySem.W.listOf vs.toArray k) :: tmp) (ledW α ο δ μ σ st) := fun p hp => by
    rcases List.mem_cons.mp hp with rfl | hp
    · exact off_new hlw _ (.head _)
    · exact off p hp
  refine kda_set (knd := iK w) F N (updF_tmp (tmp := (l, PySem.W.listOf vs.toArray k) :: tmp) (off'.ne (r := .edges) trivial) (led_updF G.inj (r := .edges) trivial)) hd (intKind_is _ _ _ _) (by rw [numKV_len, upTo_len, sizeLine_eq]; (first | lia | omega)) fun h' o' F' N' hd' => ?_
  rw [numKV_stored_in _ _ _ (mem_upTo.mpr ⟨hi.1, Nat.le_trans hi.2 (Nat.le_add_right _ _)⟩)] at hd'
  have e1 : (fun j => if j = i then l else μ (.edge j)) = fun j => upd μ (.edge i) l (.edge j) := by
    funext j
    by_cases e : j = i
    · subst e; simp
    · rw [if_neg e, upd_ne _ _ (fun q => e (Role.edge.inj q))]
  rw [e1] at hd'
  refine h h' (upd (upd σ .edges o') (.edge i) (PySem.W.listOf vs.toArray k)) F' (News.sub N' ?_) ?_ (G.move rfl (adr_edge i l) hlt' (by intro e; cases e) ⟨vs, ⟨k, rfl⟩, ?_⟩ hd' ?_)
  · show ∀ p ∈ tmp ++ led (adr α ο δ (upd μ (.edge i) l)) _ st.n, _
    rw [adr_edge]; exact news_move (σ := σ)
  · show Off tmp (led (adr α ο δ (upd μ (.edge i) l)) _ st.n)
    rw [adr_edge]; exact off_move off fun p hp => hlt p (List.mem_append_left _ hp)
  · show Nums vs (if i = i then ns else _)
    rw [if_pos rfl]; exact hN
  · intro x o h1 h2 hS
    cases x <;> first | exact hS | exact absurd rfl h2 | skip
    rename_i j
    have hji : j ≠ i := fun e => h1 (by rw [e])
    show ∃ vs, _ ∧ Nums vs (if j = i then _ else st.edges j)
    rw [if_neg hji]; exact hS
end
theorem Off1.mem' {D : Addr} : ∀ {l : List (Addr × Obj)}, Off1 D l → ∀ p ∈ l, p.1 ≠ D
  | [], _, _, h => nomatch h
  | _ :: _, x, p, h => by
    rcases List.mem_cons.mp h with rfl | h
    · exact x.1
    · exact Off1.mem' x.2 p h
theorem Off.cons {p : Addr × Obj} {tmp l : List (Addr × Obj)} (h : ∀ q ∈ l, q.1 ≠ p.1) (h' : Off tmp l) : Off (p :: tmp) l := fun r hr hq => by
  rcases List.mem_cons.mp hr with rfl | hr
  · obtain ⟨q, hq, e⟩ := List.mem_map.mp hq
    exact h q hq e
  · exact h' r hr hq
theorem off_turned {D D' L : Addr} {x v o : Obj} {b : Addr × Obj} {l : List (Addr × Obj)} (o2 : Off1 D ((D', v) :: (L + 1, o) :: b :: l)) (l1 : ∀ q ∈ (L + 1, o) :: b :: l, q.1 < D') (l9 : ∀ p ∈ b :: l, p.1 < L) (off : Off [b] l) : Off [(D, x), (D', v), (L + 1, o), b] l :=
  Off.cons (fun q hq => Off1.mem' o2 q (.tail _ (.tail _ (.tail _ hq)))) (Off.cons (fun q hq => Nat.ne_of_lt (l1 q (.tail _ (.tail _ hq)))) (Off.cons (fun q hq => Nat.ne_of_lt (Nat.lt_succ_of_lt (l9 q (.tail _ hq)))) off))
/-- stop ahead of a statement -/
noncomputable def HoldOn : Prop := True
noncomputable def SameEnd (h₀ : Heap) (L : Addr) (m : Str → Option Value) (gens : Array GenState) (drawn : Drawn) (os : OsState) (all : List (Addr × Obj)) (fl : Flow) (s' : Shared) : Prop := fl = .next ∧ ∃ h' tk', s' = ⟨h', gens, drawn, tk', os⟩ ∧ Fr h₀ L h' m ∧ News h₀ L h' all
noncomputable def BoolEnd (h₀ : Heap) (L : Addr) (m : Str → Option Value) (y : Str) (P : Bool → Prop) (gens : Array GenState) (drawn : Drawn) (os : OsState) (all : List (Addr × Obj)) (fl : Flow) (s' : Shared) : Prop := fl = .next ∧ ∃ b h' tk', P b ∧ s' = ⟨h', gens, drawn, tk', os⟩ ∧ Fr h₀ L h' (fun z => if z = y then some (.bool b) else m z) ∧ News h₀ L h' all
theorem SameEnd.intro {h₀ : Heap} {L : Addr} {m : Str → Option Value} {gens : Array GenState} {drawn : Drawn} {os : OsState} {all all' : List (Addr × Obj)} {h' : Heap} {tk' : Nat} (F : Fr h₀ L h' m) (N : News h₀ L h' all') (hs : ∀ p ∈ all, p ∈ all') : SameEnd h₀ L m gens drawn os all .next ⟨h', gens, drawn, tk', os⟩ := ⟨rfl, h', tk', rfl, F, News.sub N hs⟩
theorem BoolEnd.intro {h₀ : Heap} {L : Addr} {m : Str → Option Value} {y : Str} {P : Bool → Prop} {gens : Array GenState} {drawn : Drawn} {os : OsState} {all all' : List (Addr × Obj)} {h' : Heap} {tk' : Nat} {b : Bool} (F : Fr h₀ L h' (fun z => if z = y then some (.bool b) else m z)) (N : News h₀ L h' all') (hs : ∀ p ∈ all, p ∈ all') (hP : P b) : BoolEnd h₀ L m y P gens drawn os all .next ⟨h', gens, drawn, tk', os⟩ := ⟨rfl, b, h', tk', hP, rfl, F, News.sub N hs⟩
section
variable {prog : Program} {w : World} {A : Around} {E : Value → Shared → Prop} {env : Env} {h₀ hp : Heap} {L : Addr} {stmt : Stmt} {Q : Flow → Shared → Prop} {m : Str → Option Value} {all : List (Addr × Obj)} {gens : Array GenState} {drawn : Drawn} {os : OsState} {tk : Nat}
theorem cut_same (_F : Fr h₀ L hp m) (_N : News h₀ L hp all) (h : ∀ tk, wpAny (model prog w) A (exec stmt env) (SameEnd h₀ L m gens drawn os all) E ⟨hp, gens, drawn, tk, os⟩)
    (k : ∀ h' tk', Fr h₀ L h' m → News h₀ L h' all → Q .next ⟨h', gens, drawn, tk', os⟩) : wpAny (model prog w) A (exec stmt env) Q E ⟨hp, gens, drawn, tk, os⟩ := by
  refine wpAny_mono (h tk) (fun fl s' h' => ?_) fun _ _ e => e
  obtain ⟨rfl, h', tk', rfl, F', N'⟩ := h'
  exact k h' tk' F' N'
theorem cut_bool (y : Str) (P : Bool → Prop) (_F : Fr h₀ L hp m) (_N : News h₀ L hp all) (h : ∀ tk, wpAny (model prog w) A (exec stmt env) (BoolEnd h₀ L m y P gens drawn os all) E ⟨hp, gens, drawn, tk, os⟩)
    (k : ∀ b h' tk', P b → Fr h₀ L h' (fun z => if z = y then some (.bool b) else m z) → News h₀ L h' all → Q .next ⟨h', gens, drawn, tk', os⟩) : wpAny (model prog w) A (exec stmt env) Q E ⟨hp, gens, drawn, tk, os⟩ := by
  refine wpAny_mono (h tk) (fun fl s' h' => ?_) fun _ _ e => e
  obtain ⟨rfl, b, h', tk', hP, rfl, F', N'⟩ := h'
  exact k b h' tk' hP F' N'
end
section
variable {prog : Program} {w : World} {A : Around} {E : Value → Shared → Prop} {env : Env} {h₀ hp : Heap} {L : Addr} {stmt : Stmt} {Q : Flow → Shared → Prop} {m : Str → Option Value} {all : List (Addr × Obj)} {gens : Array GenState} {drawn : Drawn} {os : OsState} {tk : Nat}
noncomputable def ValEnd (h₀ : Heap) (L : Addr) (m : Str → Option Value) (y : Str) (P : Value → Prop) (gens : Array GenState) (drawn : Drawn) (os : OsState) (all : List (Addr × Obj)) (fl : Flow) (s' : Shared) : Prop := fl = .next ∧ ∃ v h' tk', P v ∧ s' = ⟨h', gens, drawn, tk', os⟩ ∧ Fr h₀ L h' (fun z => if z = y then some v else m z) ∧ News h₀ L h' all
theorem ValEnd.intro {y : Str} {P : Value → Prop} {all' : List (Addr × Obj)} {h' : Heap} {tk' : Nat} {v : Value} (F : Fr h₀ L h' (fun z => if z = y then some v else m z)) (N : News h₀ L h' all') (hs : ∀ p ∈ all, p ∈ all') (hP : P v) : ValEnd h₀ L m y P gens drawn os all .next ⟨h', gens, drawn, tk', os⟩ := ⟨rfl, v, h', tk', hP, rfl, F, News.sub N hs⟩
theorem cut_val (y : Str) (P : Value → Prop) (_F : Fr h₀ L hp m) (_N : News h₀ L hp all) (h : ∀ tk, wpAny (model prog w) A (exec stmt env) (ValEnd h₀ L m y P gens drawn os all) E ⟨hp, gens, drawn, tk, os⟩)
    (k : ∀ v h' tk', P v → Fr h₀ L h' (fun z => if z = y then some v else m z) → News h₀ L h' all → Q .next ⟨h', gens, drawn, tk', os⟩) : wpAny (model prog w) A (exec stmt env) Q E ⟨hp, gens, drawn, tk, os⟩ := by
  refine wpAny_mono (h tk) (fun fl s' h' => ?_) fun _ _ e => e
  obtain ⟨rfl, v, h', tk', hP, rfl, F', N'⟩ := h'
  exact k v h' tk' hP F' N'
end
section
variable {w : World} {A : Around} {E : Value → Shared → Prop} {s : Shared} {L b : Addr} {h₀ h : Heap} {m : Str → Option Value} {news tmp : List (Addr × Obj)} {kb : Nat}
  {α : Role → Addr} {ω : Role → Obj} {ο δ : Nat → Addr} {μ : Role → Addr} {σ : Role → Obj} {st : St} {Q : Value → Shared → Prop}
theorem ne_grey (G : Good w α ω ο δ μ σ st) (N : News h₀ L s.heap news) (hs : ∀ p ∈ ledW α ο δ μ σ st, p ∈ news) (hb : (b, PySem.W.listOf #[] kb) ∈ news) (hc : A.units + 64 < cLine) (h : Q (.bool (decide (st.grey ≠ []))) s) :
    wpAny (model PP w) A (compareOp .NotEq (.ref (μ .grey)) (.ref b)) Q E s := by
  obtain ⟨kk, e⟩ := G.loGrey
  have hm := hs _ (mem_led (β := adr α ο δ μ) (σ := σ) (n := st.n) (r := .grey) trivial)
  rw [e] at hm
  by_cases hg : st.grey = []
  · rw [hg] at hm
    refine ne_nums (vs := []) (us := []) N hm hb .nil .nil hc false (by simp) ?_
    rw [decide_eq_false (fun h => h hg)] at h; exact h
  · have hl : (refs ο st.grey).length ≠ ([] : List Value).length := by
      rw [refs_len]; exact fun e => hg (List.length_eq_zero_iff.mp e)
    refine ne_len (us := []) N hm hb hl (by (first | lia | omega)) ?_
    rw [decide_eq_true hg] at h; exact h
theorem eq_grey (G : Good w α ω ο δ μ σ st) (N : News h₀ L s.heap news) (hs : ∀ p ∈ ledW α ο δ μ σ st, p ∈ news) (hb : (b, PySem.W.listOf #[] kb) ∈ news) (hc : A.units + 64 < cLine) (h : Q (.bool (decide (st.grey = []))) s) :
    wpAny (model PP w) A (compareOp .Eq (.ref (μ .grey)) (.ref b)) Q E s := by
  obtain ⟨kk, e⟩ := G.loGrey
  have hm := hs _ (mem_led (β := adr α ο δ μ) (σ := σ) (n := st.n) (r := .grey) trivial)
  rw [e] at hm
  by_cases hg : st.grey = []
  · rw [hg] at hm
    refine eq_nums (vs := []) (us := []) N hm hb .nil .nil hc true (by simp) ?_
    rw [decide_eq_true hg] at h; exact h
  · have hl : (refs ο st.grey).length ≠ ([] : List Value).length := by
      rw [refs_len]; exact fun e => hg (List.length_eq_zero_iff.mp e)
    refine eq_len (us := []) N hm hb hl (by (first | lia | omega)) ?_
    rw [decide_eq_false hg] at h; exact h
end
theorem numKV_pairs (f : Nat → Addr) (l : List Nat) : (numKV f l).map (fun p => (kyVal (PyData.int p.1), p.2)) = l.map fun (j : Nat) => ((fun t => Value.int (j : Int) t), Value.ref (f j)) := by unfold numKV; rw [List.map_map]; rfl
theorem sub_app {l ts r : List (Addr × Obj)} (h : ∀ p ∈ l, p ∈ r) : ∀ p ∈ l, p ∈ ts ++ r := fun p hp => List.mem_append_right _ (h p hp)
theorem said_35 : True := by
  k_with "m_sub" => (((repeat' (first | exact sub_refl | refine sub_cons ?_ | refine sub_app ?_)); done))
  trivial
theorem items_up {w : World} {ys : List Value} {kvs : List (Int × Value)} {ts news : List (Addr × Obj)} (h : ∀ (w : World) (i : Nat) (v : Value), ys[i]? = some v → ∃ p, kvs[i]? = some p ∧ ∃ T key n, v = .ref T ∧ (T, ({ cls := .type "tuple", data := .seq #[key, p.2] n } : Obj)) ∈ ts ∧ (iK w).is p.1 key = true) (hs : ∀ p ∈ ts, p ∈ news) :
    ∀ (i : Nat) (v : Value), ys[i]? = some v → ∃ p, kvs[i]? = some p ∧ ∃ T key n, v = .ref T ∧ (T, ({ cls := .type "tuple", data := .seq #[key, p.2] n } : Obj)) ∈ news ∧ (iK w).is p.1 key = true := fun i v hv => by
  obtain ⟨p, h1, T, key, n, h2, h3, h4⟩ := h w i v hv
  exact ⟨p, h1, T, key, n, h2, hs _ h3, h4⟩
theorem nodup_cast {l : List Nat} (h : l.Nodup) : (l.map fun (i : Nat) => (i : Int)).Nodup := List.Pairwise.map _ (fun a b hab e => hab (Int.ofNat.inj e)) h
theorem sortKV_get {f : Nat → Int} {l : List Nat} {kvs : List (Int × Value)} (h : SortKV f l kvs) : ∀ {i : Nat} {k : Int} {x : Value}, kvs[i]? = some (k, x) → ∃ j u, l[i]? = some j ∧ k = ((j : Nat) : Int) ∧ x = .int (f j) u := by
  induction h with
  | nil => intro i k x h; simp at h
  | cons j t _ ih =>
    intro i k x h
    cases i with
    | zero =>
      have e := Option.some.inj h
      exact ⟨j, t, rfl, (Prod.mk.inj e).1.symm, (Prod.mk.inj e).2.symm⟩
    | succ i => exact ih h
theorem sortKV_len {f : Nat → Int} {l : List Nat} {kvs : List (Int × Value)} (h : SortKV f l kvs) : kvs.length = l.length := by
  have := congrArg List.length (sortKV_keys h)
  simpa using this
theorem sortKV_mem {f : Nat → Int} {l : List Nat} {kvs : List (Int × Value)} (h : SortKV f l kvs) : ∀ p ∈ kvs, ∃ i u, i ∈ l ∧ p = (((i : Nat) : Int), Value.int (f i) u) := by
  induction h with
  | nil => exact fun _ h => nomatch h
  | cons i t _ ih =>
    intro p hp
    rcases List.mem_cons.mp hp with rfl | hp
    · exact ⟨i, t, .head _, rfl⟩
    · obtain ⟨j, u, hj, e⟩ := ih p hp
      exact ⟨j, u, .tail _ hj, e⟩
end

section
open PySem PySem.W PySem.Calls PyProof.Rows PyProof.Rows.LCg PyProof.Rows.LCt
variable {w : World} {α : Role → Addr} {ω : Role → Obj} {ο δ : Nat → Addr} {μ : Role → Addr} {σ : Role → Obj} {st : St}
section
theorem said_36 : True := by
  k_with "call builtin:dict.items" => ((k_here; k_dflt ((with_reducible refine' items_objs ?zqF ?zqN ?zqs ?zqG ?_); (k_extra "m_sk"))))
  k_with "getMethod ref" => ((k_here; k_dflt ((with_reducible refine' meth_objs ?zqG ?zqN ?zqs PySem.F.slot_dict_items PySem.F.type_dict_items ?_); (k_extra "m_s"))))
  k_with "subscriptTail" => ((k_here; (with_reducible show wpAny _ _ (subscriptTail _ _ (Value.ref ((_ : Role → Addr) Role.all)) _) _ _ _); (fail_if_success (with_reducible show wpAny _ _ (subscriptTail (PySem.Expr.Name _ _) _ _ _) _ _ _)); k_dflt (refine kba_turn (value' := PySem.Expr.Name (PySem.Str.ofString "_") ⟨0, 0, 0, 0⟩) (fun _ => rfl) ?_)))
  k_with "subscriptTail" => ((k_here; (with_reducible show wpAny _ _ (subscriptTail _ _ (Value.ref ((_ : Role → Addr) Role.edges)) _) _ _ _); (fail_if_success (with_reducible show wpAny _ _ (subscriptTail (PySem.Expr.Name _ _) _ _ _) _ _ _)); k_dflt (refine kba_turn (value' := PySem.Expr.Name (PySem.Str.ofString "_") ⟨0, 0, 0, 0⟩) (fun _ => rfl) ?_)))
  k_with "subscriptTail" => ((k_here; (with_reducible show wpAny _ _ (subscriptTail _ _ (Value.ref ((_ : Role → Addr) Role.sorts)) _) _ _ _); (fail_if_success (with_reducible show wpAny _ _ (subscriptTail (PySem.Expr.Name _ _) _ _ _) _ _ _)); k_dflt (refine kba_turn (value' := PySem.Expr.Name (PySem.Str.ofString "_") ⟨0, 0, 0, 0⟩) (fun _ => rfl) ?_)))
  k_with "compareChain" => (((rw [PySem.arm_evalEach_cons]); (with_reducible refine chain_link ?_)))
  k_with "exec If" => (((with_reducible rename HoldOn => hOn9); (refine Hold.mk ?_)))
  k_with "exec Assign cons IfExp" => (((with_reducible rename HoldOn => hOn9); (refine Hold.mk ?_)))
  k_with "compareOp NotEq ref ref" => ((k_here; k_dflt ((with_reducible refine' ne_grey ?zqG ?zqN ?zqs ?zqk1 ?zqun ?_); (k_extra "m_s"))))
  k_with "compareOp Eq ref ref" => ((k_here; k_dflt ((with_reducible refine' eq_grey ?zqG ?zqN ?zqs ?zqk1 ?zqun ?_); (k_extra "m_s"))))
  k_with "subscriptTail" => ((k_here; k_dflt ((with_reducible refine' item_grey_last ?zqG ?zqN ?zqs ?zqa1 ?zqr1 ?zqz1 ?_); (k_extra "m_s"))))
  k_with "exec Assign cons BoolOp" => (((with_reducible rename HoldOn => hOn9); (refine Hold.mk ?_)))
  k_with "exec For" => ((refine Hold.mk ?_))
  k_with "exec Assign cons ListComp" => ((refine Hold.mk ?_))
  k_with "getMethod ref" => ((fail_if_success k_extra "m_off7"); (k_here; (with_reducible show wpAny _ _ (getMethod (Value.ref _) (Str.ofString "items") _) _ _ _); k_dflt (refine' kdl_method (knd := iK _) PySem.F.slot_dict_items PySem.F.type_dict_items ?zqN ?zqk1 ?zqa1 ?_; (k_extra "m_s"))))
  k_with "call builtin:dict.items" => ((fail_if_success k_extra "m_off7"); (k_here; k_dflt (refine' view_items (knd := iK _) ?zqF ?zqN ?zqk1 ?zqa1 ?zql1 ?_; (k_extra "m_sk"))))
  k_with "binaryOp Add ref ref" => ((fail_if_success k_extra "m_off7"); (k_here; k_dflt (refine' add_nums ?zqF ?zqN ?zqw1 ?zqw2 ?zqa1 ?zqa2 ?zqz1 ?_; (k_extra "m_sk"))))
  k_with "setItem ref" => ((fail_if_success k_extra "m_off7"); (k_here; k_dflt (refine' set_freedT (tmp := [_, _, _, _]) ?zqF ?zqN ?zqa1 ?zqoff ?zqG ?zqa2 ?_; (k_extra "m_sc"))))
  k_with "compareOp Eq ref ref" => ((fail_if_success k_extra "m_off7"); (k_here; k_dflt (refine' eq_nums ?zqN ?zqk1 ?zqk2 ?zqa1 ?zqhu ?zqun true ?zqhx ?_; (k_extra "m_s"); (case zqhu => exact Nums.nil); (case zqhx => (rename (_ ≠ (2 : Int) → List.filter _ _ = []) => hg9; rw [hg9 (by assumption)]; rfl)))))
  trivial
theorem turned_spec {dB : Addr} {oB : Obj} {kvs : List (Int × Value)} {m0 : Nat → Int} {ls : List Nat} {ph : Int} {pp : Nat} {t1 t2 : Tok} (G : Good w α ω ο δ μ σ st) (hw : Wf st) (hd : oB.IsDictOf (iK w) kvs) (hk : SortKV m0 ls kvs)
    (off : Off [(dB, oB)] (ledW α ο δ μ σ st)) (lo : (dB == sysModules) = false) (hT : TR st m0 ls ph pp) (hls : ls.length ≤ 15) (hfl : st.freed.length ≤ 15) :
    Runs w 402 [.ref (α .world), .int ph t1, .ref dB, .int (pp : Int) t2] 100 1000 ((dB, oB) :: ledW α ο δ μ σ st) (PostW w α ω ο δ fun v μ' st' => v = .bool true ∧ st' = st.setFreed (st.freed ++ ls.filter fun j => decide (st.mark j = 4))) := by
  have hwf := hw
  obtain ⟨fvs, ⟨kf, eF⟩, hfn⟩ := G.sh .freed trivial
  have hfr : (μ .freed, PySem.W.listOf fvs.toArray kf) ∈ ledW α ο δ μ σ st := by
    have := mem_led (β := adr α ο δ μ) (σ := σ) (n := st.n) (r := .freed) trivial
    rw [eF] at this; exact this
  have hflen := hfn.len
  (k_extra "m_enterC")
  k_steps
  unfold Hold
  (try k_fold)
  (with_reducible rename Fr _ _ _ _ => lF')
  refine For_turns lF' ?_
  k_steps
  (with_reducible rename Fr _ _ _ _ => F1)
  (with_reducible rename News _ _ _ _ => N1)
  refine kta_items (knd := iK w) (enc := PyData.int) rfl F1 N1 ⟨_, (N1 _ (.head _)).1, rfl, rfl⟩ (by k_mem) hd (fun _ _ h => Value.isInt_shape h) rfl ?_
  intro I lI
  refine ItemsRest.pairs2 (S "is_on") (S "here") rfl (by rfl) (by rfl) (by rfl) (by k_mem) lI ?_ ?_
  · clear F1 N1
    intro p hp t u1 u2 u3 u4 oI h4 tk4 F4 N4
    obtain ⟨j, u, hj, rfl⟩ := sortKV_mem hk p hp
    (try dsimp only)
    have hjk := hT.ok j hj
    have hsw := fun e => hT.sw e j hj
    have hon := fun e => hT.on e j hj
    have hOn : HoldOn := trivial
    k_steps
    unfold Hold
    (try k_fold)
    (with_reducible rename Fr _ _ _ _ => F1)
    (with_reducible rename News _ _ _ _ => N1)
    (with_reducible rename HoldOn => hOn9)
    (try dsimp only)
    refine cut_same F1 N1 ?_ ?_
    · clear hOn9
      intro tk8
      k_steps
      all_goals (first | exact SameEnd.intro (by k_asm) (by k_asm) (by (k_extra "m_sub")) | (exfalso; have hsw2 := hsw (by assumption); split at hsw2 <;> (first | contradiction | exact hsw2.elim (fun e => absurd e (by assumption)) (fun e => absurd e (by assumption)) | omega)))
    · clear F1 N1
      intro h5 tk5 F5 N5
      k_steps
      unfold Hold
      (try k_fold)
      (with_reducible rename Fr _ _ _ _ => F1)
      (with_reducible rename News _ _ _ _ => N1)
      (with_reducible rename HoldOn => hOn9)
      (try dsimp only)
      refine cut_bool (S "is_on") (fun b => b = false → ¬ ((m0 j < 2 ∧ 2 ≤ st.mark j ∧ st.mark j < 4) ∨ (m0 j = 2 ∧ st.mark j = 3 ∧ j = pp))) F1 N1 ?_ ?_
      · clear hOn9
        intro tk8
        k_steps
        all_goals (refine BoolEnd.intro (by k_asm) (by k_asm) (by (k_extra "m_sub")) ?_)
        all_goals (intro hb9; simp only [decide_eq_false_iff_not, beq_eq_false_iff_ne, ne_eq] at hb9; omega)
      · clear F1 N1 hOn9
        intro b h6 tk6 hb F6 N6
        k_steps
        all_goals first | exact ItEnd.intro (by k_asm) (by k_asm) (by (k_extra "m_sub")) ⟨_, _, _, _, coll4⟩ | (exfalso; have hon2 := hon (by assumption); have hb2 := hb (by assumption); exact hb2 (hon2.resolve_left (by assumption)))
  · intro u1 u2 u3 u4 h4 tk4 F4 N4
    clear F1 N1
    (try dsimp only)
    k_steps
    unfold Hold
    (try k_fold)
    (with_reducible rename Fr _ _ _ _ => F1)
    refine Assign_ListComp_TG F1 rfl (by rfl) (by with_unfolding_all rfl) (by decide) (by rfl) (by decide) (by rfl) (by rfl) (by rfl) ?_
    k_steps
    (with_reducible rename Fr _ _ _ _ => F1)
    (with_reducible rename News _ _ _ _ => N1)
    refine SrcG.keys (knd := iK w) rfl F1 N1 (by k_mem) hd lo (by rw [sortKV_len hk]; omega) fun g => Mine.CompRestT.read (fun i => decide (st.mark (ls.getD i 0) = 4)) (fun i y => ∃ j t, ls[i]? = some j ∧ y = .int (j : Nat) t) ?_ ?_ ?_
    · k_mem
    · intro ys hp
      rw [sortKV_len hk] at hp
      have hys := nums_of_paired (p := fun j => decide (st.mark j = 4)) (fun i => rfl) hp
      intro D3 h6 tk6 F6 N6 o2
      (try dsimp only)
      have hgl : (ls.filter fun j => decide (st.mark j = 4)).length ≤ 15 := Nat.le_trans (List.length_filter_le _ _) hls
      have off4 := off_turned (x := lst ys) o2 (by assumption) (by assumption) off
      have hgn : ph ≠ 2 → (ls.filter fun j => decide (st.mark j = 4)) = [] := fun e => List.filter_eq_nil_iff.mpr fun j hj => by simpa using hT.gone e j hj
      have hOn : HoldOn := trivial
      k_steps
      unfold Hold
      (try k_fold)
      (with_reducible rename HoldOn => hOn9)
      clear hOn9 off4
      obtain ⟨st2, e2⟩ : ∃ st2, st2 = st.setFreed (st.freed ++ ls.filter fun j => decide (st.mark j = 4)) := ⟨_, rfl⟩
      have hpp : decide (0 < (pp : Int)) = false ∨ (decide (0 < (pp : Int)) = true ∧ st2.ok pp ∧ (st2.sort pp == 3) = true ∧ (st2.mark pp != 2) = false) ∨ (decide (0 < (pp : Int)) = true ∧ st2.ok pp ∧ (st2.sort pp == 3) = false ∧ (st2.mark pp != 3) = false) := by
        by_cases h0 : pp = 0
        · exact .inl (by simp [h0])
        · obtain ⟨h1, h2⟩ := hT.pop (by omega)
          have h3 : decide (0 < (pp : Int)) = true := by simp; omega
          rw [e2]
          show _ ∨ (_ ∧ st.ok pp ∧ (st.sort pp == 3) = true ∧ (st.mark pp != 2) = false) ∨ (_ ∧ st.ok pp ∧ (st.sort pp == 3) = false ∧ (st.mark pp != 3) = false)
          split at h2
          · exact .inr (.inl ⟨h3, h1, by simpa, by simpa⟩)
          · exact .inr (.inr ⟨h3, h1, by simpa, by simpa⟩)
      (with_reducible rename Fr _ _ _ _ => F1)
      (with_reducible rename News _ _ _ _ => N1)
      rename Good _ _ _ _ _ _ _ _ => G1
      rename Off _ (ledW _ _ _ _ _ _) => off1
      rw [← e2] at G1 N1 off1
      have hpost : ∀ st', st' = st2 → st' = st.setFreed (st.freed ++ ls.filter fun j => decide (st.mark j = 4)) := fun _ e => e.trans e2
      clear e2
      clear hgl
      (try dsimp only)
      refine cut_same F1 N1 ?_ ?_
      · intro tk8
        clear hgn hys hp hpost off1 o2 lI hT hk hd hwf eF hfn hfr hflen hls hfl lo
        rcases hpp with h0 | ⟨h0, h1, h2, h3⟩ | ⟨h0, h1, h2, h3⟩
        · k_steps
          exact SameEnd.intro (by k_asm) (by k_asm) (by (k_extra "m_sub"))
        · k_steps
          exact SameEnd.intro (by k_asm) (by k_asm) (by (k_extra "m_sub"))
        · k_steps
          exact SameEnd.intro (by k_asm) (by k_asm) (by (k_extra "m_sub"))
      · clear F1 N1
        intro h5 tk5 F5 N5
        k_steps
        · (k_extra "m_done")
          exact ⟨by rw [show (ph == 2) = true from by simpa], hpost _ rfl⟩
        · (k_extra "m_done")
          exact ⟨rfl, hpost _ rfl⟩
    · intro i v I oI C oC D2 ys m₂ h7 tk7 E' hi hv7 hC hx F7 N7 o3 ne
      obtain ⟨kk, x, hkv, hkey⟩ := hv7
      obtain ⟨j, u, hj, rfl, rfl⟩ := sortKV_get hk hkv
      obtain ⟨t9, rfl⟩ := Value.isInt_shape hkey
      have hjk := hT.ok j (List.mem_of_getElem? hj)
      have hgd : ls.getD i 0 = j := by rw [List.getD_eq_getElem?_getD, hj]; rfl
      (try dsimp only)
      k_steps
      · rw [hgd]; simpa
      · exact RdEnd.intro (by k_asm) (by k_asm) (by (k_extra "m_sub"))
      · rw [hgd]; simpa
      · exact RdEnd.intro (by k_asm) (by k_asm) (by (k_extra "m_sub"))
end
end

section
open PySem PySem.W PySem.Calls PyProof.Rows PyProof.Rows.LCg PyProof.Rows.LCt
variable {w : World} {α : Role → Addr} {ω : Role → Obj} {ο δ : Nat → Addr} {μ : Role → Addr} {σ : Role → Obj} {st : St}
/-- what is popped -/
noncomputable def ppOf (st : St) : Nat := if st.phase = 1 then st.grey.getLast?.getD 0 else 0
theorem said_37 : True := by
  k_with "m_off7" => (skip)
  k_with "call ref" => (((with_reducible refine' hold_in [273] ?zqr ?_); (case zqr => decide)))
  trivial
theorem ppOf_1 {l : List Nat} {i : Nat} (hp : st.phase = 1) (hg : st.grey = l ++ [i]) : ppOf st = i := by
  unfold ppOf; rw [if_pos hp, hg]; simp
theorem ppOf_e (hp : st.phase = 1) (hg : st.grey = []) : ppOf st = 0 := by
  unfold ppOf; rw [if_pos hp, hg]; rfl
theorem ppOf_0 (hp : st.phase ≠ 1) : ppOf st = 0 := by unfold ppOf; rw [if_neg hp]
/-- «_law_stepped» -/
noncomputable def stepped (st : St) : St := (single st).setFreed (st.freed ++ goneAt st)
theorem sub_mid {b x y z : Addr × Obj} {ts l : List (Addr × Obj)} : ∀ p ∈ b :: l, p ∈ b :: x :: (ts ++ y :: z :: l) := fun p hp => by
  rcases List.mem_cons.mp hp with rfl | hp
  · exact .head _
  · exact .tail _ (.tail _ (List.mem_append_right _ (.tail _ (.tail _ hp))))
theorem finish_live (h : Wg st) : (finish st).live = st.live := by
  have key : ∀ s : St, Wg s → (propAll s).live = s.live := fun s hs => propAll_ind (I := fun x => x.live = s.live) (fun a l i h hw hg => by rw [(propAt_pr hw hg).same.live]; exact h) rfl hs
  unfold finish
  obtain ⟨w1, g1⟩ := propAll_wg h
  have e1 := key st h
  generalize propAll st = s1 at w1 g1 e1
  have e2 : ({ s1 with grey := [] } : St) = s1 := by
    have : s1.grey = [] := g1
    cases s1; simp only at this; subst this; rfl
  dsimp only
  rw [e2]
  have w2 : Wg (markAll s1 s1.roots) := foldF_wg 20 _ w1 w1.roots
  have e3 : (markAll s1 s1.roots).live = s1.live := (foldF_same 20 s1.roots s1).a.live
  generalize markAll s1 s1.roots = c2 at w2 e3
  obtain ⟨w3, g3⟩ := propAll_wg w2
  have e4 := key c2 w2
  generalize propAll c2 = s3 at w3 g3 e4
  have w4 : Wg ({ s3 with grey := s3.again, again := [] } : St) := by
    refine ⟨⟨w3.wf.small, w3.wf.sort, w3.wf.size, w3.wf.edge, w3.wf.elen⟩, w3.again, (fun _ h => nomatch h), w3.roots, ?_⟩
    have h1 := w3.sum
    have h2 : whites ({ s3 with grey := s3.again, again := [] } : St) = whites s3 := rfl
    show whites ({ s3 with grey := s3.again, again := [] } : St) + s3.again.length + 0 ≤ 900
    omega
  have e5 : ({ s3 with grey := s3.again, again := [] } : St).live = s3.live := rfl
  rw [key _ w4, e5, e4, e3, e1]
theorem InvF.stepOk {k : Nat} {fr : List Nat} (h : InvF k fr st) : StepOk st := by
  have h1 := h.llen
  have h2 := h.wf.small
  have h3 := h.sl
  exact ⟨h.wg, ⟨fun i hi => h.lok hi, by omega, by omega⟩, h.ph, by rw [finish_live h.wg]; omega⟩
theorem InvF.held {k : Nat} {fr : List Nat} (h : InvF k fr st) (hf : st.freed = fr) : Held st := by
  refine ⟨by rw [hf]; exact h.perm, fun i hi => ?_, h.tot, fun i hi => (h.gl i hi).2⟩
  induction hi with
  | root => exact h.one
  | edge _ hc ih => exact h.clo _ ih _ hc
theorem setFreed_self (s : St) : s.setFreed s.freed = s := rfl
theorem InvF.trs {k : Nat} {fr : List Nat} (h : InvF k fr st) (hn : ¬ (st.phase = 1 ∧ st.grey = [])) : TR (single st) st.mark st.live st.phase (ppOf st) ∧
    ((st.phase = 0 ∧ (single st).phase = 1) ∨ (st.phase = 1 ∧ (single st).phase = 1) ∨ (st.phase = 2 ∧ (single st).phase = 3) ∨ (st.phase = 3 ∧ (single st).phase = 0)) := by
  rcases h.ph with hp | hp | hp | hp
  · rw [ppOf_0 (by omega), hp]
    exact ⟨h.tr0 hp, .inl ⟨rfl, by rw [single_0 hp]; rfl⟩⟩
  · cases hgl : st.grey.getLast? with
    | none => exact absurd ⟨hp, List.getLast?_eq_none_iff.mp hgl⟩ hn
    | some i =>
      have hg := last_split hgl
      rw [ppOf_1 hp hg, hp]
      exact ⟨h.tr1 hp hg, .inr (.inl ⟨rfl, by rw [single_1 hp hg, (propAt_pr h.wg hg).same.phase]; exact hp⟩)⟩
  · rw [ppOf_0 (by omega), hp]
    exact ⟨h.tr2 hp, .inr (.inr (.inl ⟨rfl, by rw [single_2 hp]; exact (h.sws hp).phase⟩))⟩
  · rw [ppOf_0 (by omega), hp]
    exact ⟨h.tr3 hp, .inr (.inr (.inr ⟨rfl, by rw [single_3 hp]; rfl⟩))⟩
section
theorem said_38 : True := by
  k_with "call type:dict" => ((fail_if_success k_extra "m_off8"); (refine Hold.mk ?_))
  k_with "call builtin:sorted" => ((fail_if_success k_extra "m_off8"); (k_here; k_dflt (refine' sorted_keys (R := _) ?zqhh ?zqF ?zqN ?zqhm ?zqhd ?zqhk ?zqlo ?zqhne ?zqhz ?_; (case zqhh => exact rfl); (case zqF => k_asm); (case zqN => k_asm); (case zqhm => (k_extra "m_mem")); (case zqhd => assumption); (case zqhk => (first | assumption | exact numKV_keys _ _)); (case zqlo => assumption); (case zqhne => assumption); (case zqhz => omega); k_whole; intro D' h' tk' vs' R' c' F' N' l1 hv' hp' ho'; (try k_sweep))))
  k_with "compareOp Eq ref ref" => ((fail_if_success k_extra "m_off8"); (k_here; k_dflt (refine' eq_nums ?zqN ?zqk1 ?zqk2 ?zqa1 ?zqa2 ?zqun true ?zqhx ?_; (k_extra "m_s"); (case zqhx => exact (decide_eq_true (sorted_same (by assumption) (by assumption) (by assumption) (by assumption) (by assumption))).symm))))
  k_with "eval Dict" => ((fail_if_success k_extra "m_off8"); (k_here; k_dflt (refine' kdn_eval (knd := iK _) ?zqF ?zqN ?zqb ?zqr1 ?zqr2 ?zqe ?zqb1 ?_; (k_extra "m_s"); (case zqb => exact Top.nolimit (by k_asm)); (case zqe => exact List.cons_ne_nil _ _)); intro d' h' o' F' N' l1 lo' hd'; (try k_lt l1)))
  k_with "subscriptTail" => ((fail_if_success k_extra "m_off8"); ((with_reducible show wpAny _ _ (subscriptTail (PySem.Expr.Dict _ _ _) _ (Value.ref _) (Value.int _ _)) _ _ _); (refine Hold.mk ?_)))
  k_with "m_due" => ((k_dflt (refine kba_turn (value' := PySem.Expr.Name (PySem.Str.ofString "_") ⟨0, 0, 0, 0⟩) (fun _ => rfl) ?_; refine' kda_item (knd := iK _) ?zqN ?zqk1 ?zqa1 (intKind_is _ _ _ _) ?zqr1 ?_; (k_extra "m_s"))))
  trivial
theorem stepped_spec (Fn : Fns w α ω) {k : Nat} (G : Good w α ω ο δ μ σ st) (hI : InvF k st.freed st) :
    Runs w 407 [.ref (α .world)] 380 3800 (ledW α ο δ μ σ st) (PostW w α ω ο δ fun v μ' st' => v = .bool true ∧ st' = stepped st) := by
  have hsm := hI.wf.small
  have hll := hI.llen
  have hgl := hI.glen
  have hobj : (α .objs, σ .objs) ∈ ledW α ο δ μ σ st := mem_led (β := adr α ο δ μ) (σ := σ) (n := st.n) (r := .objs) trivial
  have hone := hI.one
  (k_extra "m_enter")
  have hOn : HoldOn := trivial
  k_steps
  unfold Hold
  (try k_fold)
  (with_reducible rename Fr _ _ _ _ => F1)
  (with_reducible rename News _ _ _ _ => N1)
  (with_reducible rename HoldOn => hOn9)
  (try dsimp only)
  refine cut_val (S "popped") (fun v => ∃ t, v = .int (ppOf st : Nat) t) F1 N1 ?_ ?_
  · clear hOn9
    intro tk8
    cases hgl : st.grey.getLast? with
    | none =>
      have hg := List.getLast?_eq_none_iff.mp hgl
      have hd0 : decide (st.grey ≠ []) = false := by simp [hg]
      k_steps
      · exact ValEnd.intro (by k_asm) (by k_asm) (by (k_extra "m_sub")) ⟨_, by rw [ppOf_e (by assumption) hg]; rfl⟩
      · exact ValEnd.intro (by k_asm) (by k_asm) (by (k_extra "m_sub")) ⟨_, by rw [ppOf_0 (by assumption)]; rfl⟩
    | some i =>
      have hg := last_split hgl
      generalize st.grey.dropLast = l at hg
      have hik : st.ok i := hI.lok (hI.gl i (by rw [hg]; simp)).1
      have hd0 : decide (st.grey ≠ []) = true := by simp [hg]
      k_steps
      · exact ValEnd.intro (by k_asm) (by k_asm) (by (k_extra "m_sub")) ⟨_, by rw [ppOf_1 (by assumption) hg]⟩
      · exact ValEnd.intro (by k_asm) (by k_asm) (by (k_extra "m_sub")) ⟨_, by rw [ppOf_0 (by assumption)]; rfl⟩
  · clear F1 N1 hOn9
    intro v h5 tk5 hJ0 F5 N5
    (try dsimp only)
    (try k_fold)
    obtain ⟨t5, rfl⟩ := hJ0
    k_steps
    unfold Hold
    (try k_fold)
    (with_reducible rename Fr _ _ _ _ => F1)
    refine kcp_ListComp (intKind _ _) F1 (by with_unfolding_all rfl) (by decide) (by rfl) (by decide) (by rfl) (by rfl) (by decide) ?_
    k_steps
    (with_reducible rename Fr _ _ _ _ => F1)
    (with_reducible rename News _ _ _ _ => N1)
    refine KcpSrc.intro (enc := PyData.int) rfl F1 N1 ⟨_, (N1 _ (.head _)).1, rfl, rfl⟩ (.tail _ (.tail _ hobj)) (G.sh .objs trivial) (by rw [numKV_len, sizeLine_eq]; omega) (fun _ _ h => Value.isInt_shape h) (numKV_pairs ο st.live) ?_
    intro g
    refine KcpRest.pairs st.mark (.tail _ (.tail _ hobj)) ?_ ?_
    · clear F1 N1
      intro j hj t I oI C oC D ys ts m₂ h6 tk6 E' hC ha hb F6 N6
      have hjk := hI.lok hj
      (try dsimp only)
      k_steps
      rename (_ < _ ∧ _ < _ ∧ _ < _ ∧ AllLt _ _) => l9
      exact PrEnd.intro (by k_asm) (by k_asm) (.head _) (by (k_extra "m_sub")) (allLt_mem (l := _ :: _ :: _ :: _) l9)
    · clear F1 N1
      intro ys ts hP
      obtain ⟨kvs, hk, hlen, hitems⟩ := hP.kvs
      have hys := hP.len
      have hnd : (kvs.map (·.1)).Nodup := by rw [sortKV_keys hk]; exact nodup_cast hI.lnd
      intro D h6 tk6 F6 N6 o6
      (try dsimp only)
      have hOn : HoldOn := trivial
      k_steps
      unfold Hold
      (try k_fold)
      (with_reducible rename Fr _ _ _ _ => F1)
      (with_reducible rename News _ _ _ _ => N1)
      (try dsimp only)
      refine dict_pairs rfl F1 N1 (by k_mem) hlen (by omega) hnd (items_up hitems (sub_cons fun p hp => List.mem_append_left _ hp)) ?_
      clear F1 N1
      intro dB oB h7 tk7 F7 N7 lB hdB
      replace N7 := News.sub N7 sub_mid
      have hobjB := lB _ (.tail _ (List.mem_append_right _ (.tail _ (.tail _ hobj))))
      have loB : (dB == sysModules) = false := by
        have h1 : 1 < α .objs := G.lo .objs trivial
        have h2 : α .objs < dB := hobjB
        exact beq_eq_false_iff_ne.mpr (Nat.ne_of_gt (Nat.lt_trans h1 h2))
      have offB := off_new (lo := oB) (fun q hq => lB q (.tail _ (List.mem_append_right _ (.tail _ (.tail _ hq)))))
      have lB2 : ∀ q ∈ ledW α ο δ μ σ st, q.1 < dB := fun q hq => lB q (.tail _ (List.mem_append_right _ (.tail _ (.tail _ hq))))
      clear lB hobjB hlen hitems hP hys hnd o6
      (try dsimp only)
      k_steps
      unfold Hold
      (try k_fold)
      (with_reducible rename HoldOn => hOn9)
      clear hOn9
      (with_reducible rename Fr _ _ _ _ => F1)
      (with_reducible rename News _ _ _ _ => N1)
      (try dsimp only)
      refine cut_bool (S "is_end") (fun b => b = decide (st.phase = 1 ∧ st.grey = [])) F1 N1 ?_ ?_
      · intro tk8
        k_steps
        · exact BoolEnd.intro (by k_asm) (by k_asm) (by (k_extra "m_sub")) (by simp_all)
        · exact BoolEnd.intro (by k_asm) (by k_asm) (by (k_extra "m_sub")) (by simp_all)
      · clear F1 N1
        intro b h8 tk8 hb F8 N8
        have hok := hI.stepOk
        k_steps
        unfold Hold
        (try k_fold)
        ((refine' Runs.callT (single_spec Fn G hok.wg hok.ws hok.ph hok.fin) ?offq52 ?Bq52 ?Fq52 ?Xq52 ?Nq52 ?Tq52 ?hAq52 ?hfq52 ?hkq52 ?hhq52 ?hdq52 ?huq52 ?_; (case offq52 => assumption); (case Bq52 => k_asm); (case Fq52 => k_asm); (case Xq52 => k_asm); (case Nq52 => (k_extra "m_news")); (case Tq52 => k_asm); (case hAq52 => exact rfl); (case hfq52 => exact rfl); (case hkq52 => exact rfl); (case hhq52 => exact rfl); (case hdq52 => (k_extra "m_room")); (case huq52 => (k_extra "m_units")); k_whole; (try dsimp only)))
        refine kE4 ?_
        intro kv tv μ9 σ9 h9 tk9 F9 N9 off9 G9 hμ
        (try dsimp only)
        (try k_fold)
        (try dsimp only [List.cons_append, List.nil_append] at N9)
        have hI9 := hI.steps
        have e7 := single_sort hI
        have es := e7.1
        have ee := e7.2.1
        have en := e7.2.2.1
        have ez := e7.2.2.2.1
        have et := e7.2.2.2.2.1
        have ec := e7.2.2.2.2.2.1
        have ef := e7.2.2.2.2.2.2
        clear e7
        cases hb2 : b with
        | true =>
          rw [hb2] at hb F9
          obtain ⟨hp1, hg⟩ : st.phase = 1 ∧ st.grey = [] := of_decide_eq_true hb.symm
          have hat := atomic_same hI hp1
          rw [← single_1e hp1 hg] at hat
          have hlv := hat.1
          have hp9 := hat.2.2.2.2.2.2.2.2.1
          clear hat
          have hgn : goneAt st = [] := gone_nil hlv hI9.lm
          rw [hgn, List.append_nil] at hI9
          have hl9 : (single st).live.length ≤ 15 := by rw [hlv]; omega
          have hg9 := hI9.glen
          have hn9 := hI9.wf.small
          k_steps
          unfold Hold
          (try k_fold)
          ((refine' Runs.callT (held_spec G9 hI9.wf hI9.n1 (hI9.held ef) (fun i hi => hI9.lok (hI9.gl i hi).1) (by omega)) ?offq53 ?Bq53 ?Fq53 ?Xq53 ?Nq53 ?Tq53 ?hAq53 ?hfq53 ?hkq53 ?hhq53 ?hdq53 ?huq53 ?_; (case offq53 => assumption); (case Bq53 => k_asm); (case Fq53 => k_asm); (case Xq53 => k_asm); (case Nq53 => (k_extra "m_news")); (case Tq53 => k_asm); (case hAq53 => exact rfl); (case hfq53 => exact rfl); (case hkq53 => exact rfl); (case hhq53 => exact rfl); (case hdq53 => (k_extra "m_room")); (case huq53 => (k_extra "m_units")); k_whole; (try dsimp only)))
          refine kRT ?_
          intro h10 tk10 F10 N10 off10
          (try dsimp only)
          (try k_fold)
          (try dsimp only [List.cons_append, List.nil_append] at N10)
          have hobj9 : (α .objs, σ9 .objs) ∈ ledW α ο δ μ9 σ9 (single st) := mem_led (β := adr α ο δ μ9) (σ := σ9) (n := (single st).n) (r := .objs) trivial
          have hdo9 : (σ9 .objs).IsDictOf (iK w) (numKV ο (single st).live) := G9.sh .objs trivial
          have lo9 : (α .objs == sysModules) = false := G9.low (r := .objs) trivial
          have hne9 : (single st).live ≠ [] := by rw [hlv]; intro e; rw [e] at hone; cases hone
          have hne0 : st.live ≠ [] := by intro e; rw [e] at hone; cases hone
          have hAB : (single st).live.Perm st.live := by rw [hlv]
          have hkk := sortKV_keys hk
          k_steps
          (k_extra "m_done")
          refine ⟨rfl, ?_⟩
          unfold stepped
          rw [hgn, List.append_nil, ← ef, setFreed_self]
        | false =>
          rw [hb2] at hb F9
          have hnb : ¬ (st.phase = 1 ∧ st.grey = []) := of_decide_eq_false hb.symm
          obtain ⟨hTR, hp9⟩ := hI.trs hnb
          have hfl : (single st).freed.length ≤ 15 := by
            rw [ef]
            have := hI.perm.length_eq
            rw [List.length_append, upTo_len] at this; omega
          have hll15 : st.live.length ≤ 15 := by omega
          k_steps
          unfold Hold
          (try k_fold)
          rcases hp9 with ⟨hp1, hp9⟩ | ⟨hp1, hp9⟩ | ⟨hp1, hp9⟩ | ⟨hp1, hp9⟩
          all_goals (rw [hp1]; clear hp1 hb hnb hb2)
          all_goals (k_extra "m_due")
          all_goals k_steps
          all_goals (unfold Hold; (try k_fold))
          all_goals ((refine' Runs.call (turned_spec G9 hI9.wf hdB hk off9 loB hTR hll15 hfl) ?Bq54 ?Fq54 ?Xq54 ?Nq54 ?Tq54 ?hAq54 ?hfq54 ?hkq54 ?hhq54 ?hdq54 ?huq54 ?_; (case Bq54 => k_asm); (case Fq54 => k_asm); (case Xq54 => k_asm); (case Nq54 => (k_extra "m_news")); (case Tq54 => k_asm); (case hAq54 => exact rfl); (case hfq54 => exact rfl); (case hkq54 => exact rfl); (case hhq54 => exact rfl); (case hdq54 => (k_extra "m_room")); (case huq54 => (k_extra "m_units")); k_whole; (try dsimp only)))
          all_goals (refine kE6 ?_; intro μ10 σ10 h10 tk10 F10 N10 hKp G10; clear hKp; (try dsimp only); (try k_fold))
          all_goals (rw [ef] at G10 N10)
          all_goals (replace G10 : Good w α ω ο δ μ10 σ10 (stepped st) := G10)
          all_goals (replace N10 : News _ _ _ (ledW α ο δ μ10 σ10 (stepped st)) := N10)
          all_goals (have hI10 : InvF k (st.freed ++ goneAt st) (stepped st) := hI9.setFreed (st.freed ++ goneAt st))
          all_goals (have hn10 := hI10.wf.small; have hg10 := hI10.glen)
          all_goals k_steps
          all_goals (unfold Hold; (try k_fold))
          all_goals ((refine' Runs.call (held_spec G10 hI10.wf hI10.n1 (hI10.held rfl) (fun i hi => hI10.lok (hI10.gl i hi).1) (by omega)) ?Bq55 ?Fq55 ?Xq55 ?Nq55 ?Tq55 ?hAq55 ?hfq55 ?hkq55 ?hhq55 ?hdq55 ?huq55 ?_; (case Bq55 => k_asm); (case Fq55 => k_asm); (case Xq55 => k_asm); (case Nq55 => (k_extra "m_news")); (case Tq55 => k_asm); (case hAq55 => exact rfl); (case hfq55 => exact rfl); (case hkq55 => exact rfl); (case hhq55 => exact rfl); (case hdq55 => (k_extra "m_room")); (case huq55 => (k_extra "m_units")); k_whole; (try dsimp only)))
          all_goals (refine kRT ?_; intro h11 tk11 F11 N11 hKp; clear hKp; (try dsimp only); (try k_fold))
          all_goals ((k_extra "m_done"); exact ⟨rfl, rfl⟩)
end
end

section
open PySem PySem.W PyProof.Rows
section
variable {k : Nat} {fr : List Nat} {st : St}
structure Keep (a b : St) : Prop where
  n : b.n = a.n
  sort : b.sort = a.sort
  size : b.size = a.size
  edges : b.edges = a.edges
  freed : b.freed = a.freed
  turn : b.turn = a.turn
  cells : b.cells = a.cells
  live : ∀ j ∈ b.live, j ∈ a.live
theorem said_39 : True := by
  k_with "m_off8" => (skip)
  trivial
theorem Keep.refl (a : St) : Keep a a := ⟨rfl, rfl, rfl, rfl, rfl, rfl, rfl, fun _ h => h⟩
theorem Keep.trans {a b c : St} (h : Keep a b) (h' : Keep b c) : Keep a c :=
  ⟨h'.n.trans h.n, h'.sort.trans h.sort, h'.size.trans h.size, h'.edges.trans h.edges, h'.freed.trans h.freed, h'.turn.trans h.turn, h'.cells.trans h.cells, fun j hj => h.live j (h'.live j hj)⟩
theorem InvF.keep (h : InvF k fr st) : Keep st (single st) := by
  obtain ⟨h1, h2, h3, h4, h5, h6, h7⟩ := single_sort h
  exact ⟨h3, h1, h4, h2, h7, h5, h6, h.live_step⟩
theorem begin_keep (st : St) : Keep st ((begin st).setPhase 1) := by
  have hs : SameA st (begin st) := (forget_same st).trans (foldF_same 20 st.roots (forget st)).a
  exact ⟨hs.n, hs.sort, hs.size, hs.edges, hs.freed, hs.turn, hs.cells, by rw [begin_live]; exact fun _ h => h⟩
theorem sum_nonneg {f : Nat → Int} : ∀ {l : List Nat}, (∀ j ∈ l, 0 ≤ f j) → 0 ≤ (l.map f).sum
  | [], _ => by simp
  | a :: l, h => by
    rw [List.map_cons, List.sum_cons]
    have := h a (.head _)
    have := sum_nonneg (l := l) fun j hj => h j (.tail _ hj)
    (first | lia | omega)
theorem InvF.tot0 (h : InvF k fr st) : 0 ≤ st.total := by
  rw [h.tot]
  exact sum_nonneg fun j hj => by have := h.wf.size j (h.lok hj); (first | lia | omega)
/-- what a cycle that ran alone leaves -/
structure Ends (k : Nat) (a b : St) : Prop where
  keep : Keep a b
  phase : b.phase = 0
  inv : ∃ fr, InvF k fr b
  only : ∀ j ∈ b.live, Reach a.edges j
  est : b.est = b.total
theorem cycle_tail {a : St} (h : InvF k fr a) (hp : a.phase = 1) (hg : a.grey = []) (hy : YG (Reach a.edges) a) : ∃ n b, Chain 0 n a b ∧ Ends k a b := by
  have F := h.fi hp
  have hw := h.wh
  have fy := F.yg (Reach a.edges) (fun j hj c hc => Reach.edge hj hc) hy (by rw [h.roots]; intro c hc; rw [List.mem_singleton.mp hc]; exact .root)
  have q := h.p1 hp
  -- the marking's end
  have e1 := single_1e hp hg
  have h1 := h.steps
  have k1 := h.keep
  obtain ⟨hlv, _, hed, _, _, _, _, _, hph, _, htot, hest⟩ := atomic_same h hp
  have hmk : (atomic a).mark = (finish a).mark := by unfold atomic flip; generalize finish a = f; rfl
  have hwh : (atomic a).white = 1 - (finish a).white := by unfold atomic flip; generalize finish a = f; rfl
  have hfw : (finish a).white = a.white := F.sd.same.white
  rw [← e1] at hlv hed hph htot hest hmk hwh
  have hst := h.stepOk
  have ht0 := h.tot0
  have hnew : ∀ j ∈ a.live, (finish a).mark j = a.white ∨ (finish a).mark j = 2 ∨ (finish a).mark j = 3 := fun i hi => by
    have hl := h.lm i hi
    have hqw := q.w i hi
    by_cases h2 : a.mark i < 2
    · have e : a.mark i = a.white := by (first | lia | omega)
      rw [← e]; exact F.sd.new i h2
    · exact .inr (F.sd.range i (by (first | lia | omega)))
  have hfo : ∀ j, a.ok j → (finish a).ok j := fun j hj => (F.sd.same.ok j).mpr hj
  generalize hb1 : single a = b at *
  -- the sweep
  have e2 := single_2 hph
  have r := h1.sws hph
  have h2 := h1.steps
  have k2 := h1.keep
  have s2 := h1.stepOk
  rw [← e2] at r
  generalize hb2 : single b = c at *
  have e3 := single_3 r.phase
  have h3 := h2.steps
  have k3 := h2.keep
  have s3 := h2.stepOk
  have hc0 := h2.tot0
  have hce : c.est = c.total := by rw [r.est, hest, htot]; (first | lia | omega)
  have hcl : ∀ j ∈ c.live, Reach a.edges j := fun j hj => by
    obtain ⟨h4, h5⟩ := (r.live j).mp hj
    rw [hlv] at h4
    rw [hmk, hwh, hfw] at h5
    refine fy.m j (hfo j (h.lok h4)) ?_
    rcases hnew j h4 with e | e
    · exact absurd e (by (first | lia | omega))
    · exact e
  have hd : ∀ d : St, single c = d → d = finalize c → ∃ n b, Chain 0 n a b ∧ Ends k a b := fun d hd1 hd2 => by
    refine ⟨3, d, ?_, ?_⟩
    · refine .step (by (first | lia | omega)) hst ?_
      rw [hb1]
      refine .step (by (first | lia | omega)) s2 ?_
      rw [hb2]
      refine .step (by have := r.phase; (first | lia | omega)) s3 ?_
      rw [hd1]
      exact .done (by rw [hd2]; rfl)
    · rw [hd1] at k3 h3
      refine ⟨k1.trans (k2.trans k3), by rw [hd2]; rfl, ⟨_, h3⟩, fun j hj => hcl j (k3.live j hj), ?_⟩
      rw [hd2]; exact hce
  exact hd _ rfl e3
theorem cycle_ends : ∀ (m : Nat) (a : St) (fr : List Nat), InvF k fr a → a.phase = 1 → YG (Reach a.edges) a → whites a + a.grey.length ≤ m → ∃ n b, Chain 0 n a b ∧ Ends k a b := by
  intro m
  induction m with
  | zero =>
    intro a fr h hp hy hm
    have hg : a.grey = [] := List.length_eq_zero_iff.mp (by (first | lia | omega))
    exact cycle_tail h hp hg hy
  | succ m ih =>
    intro a fr h hp hy hm
    cases hgl : a.grey.getLast? with
    | none =>
      have hg := List.getLast?_eq_none_iff.mp hgl
      exact cycle_tail h hp hg hy
    | some i =>
      have hg := last_split hgl
      have p := propAt_pr h.wg hg
      have h2 := h.props hp hg
      have hy2 := YG.prop (fun j hj c hc => Reach.edge hj hc) a _ i hy rfl h.wg hg
      have hs := p.sum
      have he : (propAt a a.grey.dropLast i).edges = a.edges := p.same.edges
      obtain ⟨n, b, hC, hE⟩ := ih (propAt a a.grey.dropLast i) fr h2 (by rw [p.same.phase]; exact hp) (by rw [he]; exact hy2) (by (first | lia | omega))
      rw [← single_1 hp hg] at hC hE
      refine ⟨n + 1, b, .step (by (first | lia | omega)) h.stepOk hC, h.keep.trans hE.keep, hE.phase, hE.inv, ?_, hE.est⟩
      have := hE.only
      rw [h.keep.edges] at this; exact this
theorem begin_yg (h : InvF k fr st) (hp : st.phase = 0 ∨ st.phase = 3) : YG (Reach st.edges) ((begin st).setPhase 1) := by
  have hwg := h.forget_wg
  have hrok : ∀ c ∈ st.roots, (forget st).ok c := hwg.roots
  obtain ⟨m, _⟩ := markAll_mk hwg.wf hrok
  have hn : NewIn (Reach st.edges) (forget st) (markAll (forget st) st.roots) := markAll_in _ _ (fun j hj c hc => Reach.edge hj hc) (by rw [h.roots]; intro c hc; rw [List.mem_singleton.mp hc]; exact .root)
  have hm : ∀ i ∈ st.live, st.mark i = st.white := h.p03 (by (first | lia | omega))
  have hag : (markAll (forget st) st.roots).again = [] := SameM.again m.same
  have hw := h.wh
  have hwg2 : Wg (markAll (forget st) st.roots) := foldF_wg 20 _ hwg hrok
  have hs : SameA st (markAll (forget st) st.roots) := (forget_same st).trans m.same.a
  have key : ∀ j, st.ok j → ((markAll (forget st) st.roots).mark j = 2 ∨ (markAll (forget st) st.roots).mark j = 3) → Reach st.edges j := fun j hj hj2 => by
    rcases h.split hj with h3 | h3
    · exact hn j (by show st.mark j < 2; rw [hm j h3]; (first | lia | omega)) (by (first | lia | omega))
    · have h4 : (markAll (forget st) st.roots).mark j = st.mark j := m.old j (by show 2 ≤ st.mark j; rw [h.fm j h3]; (first | lia | omega))
      rw [h.fm j h3] at h4; (first | lia | omega)
  refine ⟨fun j ho hj => key j ((hs.ok j).mp ho) hj, fun j hj => ?_, ?_⟩
  · rcases m.greyIn j hj with h1 | ⟨_, h1⟩
    · cases h1
    · exact key j ((hs.ok j).mp (hwg2.grey j hj)) (.inl h1)
  · show ∀ j ∈ (markAll (forget st) st.roots).again, _
    rw [hag]; exact fun _ h => nomatch h
theorem InvF.pre (h : InvF k fr st) : InvF k fr (fullPre st) ∧ Keep st (fullPre st) ∧ ((fullPre st).phase = 2 ∨ (fullPre st).phase = 3) := by
  unfold fullPre
  by_cases hp : st.phase ≤ 1
  · rw [if_pos hp]
    refine ⟨?_, ⟨rfl, rfl, rfl, rfl, rfl, rfl, rfl, fun _ h => h⟩, .inl rfl⟩
    have hw := h.wh
    have hnd : ∀ i ∈ st.live, st.mark i ≠ 1 - st.white := fun i hi => by
      rcases h.ph with hq | hq | hq | hq
      · have := h.p03 (.inl hq) i hi; (first | lia | omega)
      · exact (h.p1 hq).w i hi
      · (first | lia | omega)
      · (first | lia | omega)
    refine ⟨⟨h.wf.small, h.wf.sort, h.wf.size, h.wf.edge, h.wf.elen⟩, h.n1, h.k12, h.nk, h.ek, Nat.zero_le _, h.roots, h.one, h.perm, h.tot, h.wh, .inr (.inr (.inl rfl)), h.clo, h.lm, h.fm, (fun _ h => nomatch h), .nil, (fun _ h => nomatch h), Nat.le_trans h.llen h.wf.small, fun _ => rfl, ?_, ?_, ?_⟩
    · intro e; exact absurd e (by show ¬ ((2 : Int) = 0 ∨ (2 : Int) = 3); (first | lia | omega))
    · intro e; exact absurd e (by show ¬ (2 : Int) = 1; (first | lia | omega))
    · intro _
      exact ⟨fun i hi => .inr hi, hnd 1 h.one, fun i hi _ c hc => hnd c (h.clo i hi c hc)⟩
  · rw [if_neg hp]
    refine ⟨h, Keep.refl st, ?_⟩
    have := h.ph; (first | lia | omega)
/-- «full» runs, and what it leaves -/
theorem full_runs (h : InvF k fr st) : ∃ n1 n2 st2 st4, Chain 3 n1 (fullPre st) st2 ∧ Wg st2 ∧ Chain 0 n2 ((begin st2).setPhase 1) st4 ∧ Ends k st st4 := by
  obtain ⟨h1, k1, hp⟩ := h.pre
  have key : ∃ n1 st2, Chain 3 n1 (fullPre st) st2 ∧ st2.phase = 3 ∧ (∃ fr2, InvF k fr2 st2) ∧ Keep st st2 := by
    rcases hp with hp | hp
    · have r := h1.sws hp
      have e := single_2 hp
      rw [← e] at r
      exact ⟨1, single (fullPre st), .step (by (first | lia | omega)) h1.stepOk (.done r.phase), r.phase, ⟨_, h1.steps⟩, k1.trans h1.keep⟩
    · exact ⟨0, _, .done hp, hp, ⟨_, h1⟩, k1⟩
  obtain ⟨n1, st2, hC, hp2, ⟨fr2, h2⟩, k2⟩ := key
  have hb := h2.begins (.inr hp2)
  have hy := begin_yg h2 (.inr hp2)
  have kb := begin_keep st2
  obtain ⟨n2, st4, hC2, hE⟩ := cycle_ends _ ((begin st2).setPhase 1) fr2 hb.2 rfl (by rw [kb.edges]; exact hy) (Nat.le_refl _)
  refine ⟨n1, n2, st2, st4, hC, h2.wg, hC2, k2.trans (kb.trans hE.keep), hE.phase, hE.inv, ?_, hE.est⟩
  have := hE.only
  rw [kb.edges, k2.edges] at this
  exact this
theorem InvF.reach (h : InvF k fr st) : ∀ i, Reach st.edges i → i ∈ st.live := fun i hi => by
  induction hi with
  | root => exact h.one
  | edge _ hc ih => exact h.clo _ ih _ hc
theorem Ends.exact {a b : St} (h : Ends k a b) (j : Nat) : j ∈ b.live ↔ Reach a.edges j := by
  obtain ⟨fr, hI⟩ := h.inv
  refine ⟨h.only j, fun hj => hI.reach j ?_⟩
  rw [h.keep.edges]; exact hj
/-- the state behind «_law_whole_right» -/
noncomputable def wholeOf (b : St) (old R : List Nat) : St := (b.setThr ((b.est * 200).fdiv 100)).setFreed (old ++ R.filter fun j => decide (j ∉ b.live))
theorem whole_inv {a b : St} {R : List Nat} (ha : InvF k a.freed a) (h : Ends k a b) (hR : R.Perm a.live) : InvF k (wholeOf b a.freed R).freed (wholeOf b a.freed R) := by
  obtain ⟨fr, hI⟩ := h.inv
  have hnd := hI.nd
  have hRn : R.Nodup := hR.symm.nodup ha.lnd
  have hfr : fr.Perm (a.freed ++ R.filter fun j => decide (j ∉ b.live)) := by
    refine (List.perm_ext_iff_of_nodup (List.nodup_append.mp hnd).2.1 ?_).mpr fun j => ?_
    · rw [List.nodup_append]
      refine ⟨(List.nodup_append.mp ha.nd).2.1, hRn.sublist List.filter_sublist, fun x hx y hy e => ?_⟩
      subst e
      exact ha.apart (hR.mem_iff.mp (List.mem_filter.mp hy).1) hx
    · rw [List.mem_append, List.mem_filter]
      constructor
      · intro hj
        have h1 : b.ok j := mem_upTo.mp (hI.perm.mem_iff.mp (List.mem_append_right _ hj))
        have h2 : a.ok j := by have := h.keep.n; unfold St.ok at *; (first | lia | omega)
        have h3 : j ∉ b.live := fun h4 => hI.apart h4 hj
        rcases ha.split h2 with h4 | h4
        · exact .inr ⟨hR.mem_iff.mpr h4, by simpa using h3⟩
        · exact .inl h4
      · intro hj
        have h2 : a.ok j ∧ j ∉ b.live := by
          rcases hj with h4 | ⟨h4, h5⟩
          · exact ⟨mem_upTo.mp (ha.perm.mem_iff.mp (List.mem_append_right _ h4)), fun h6 => ha.apart (h.keep.live j h6) h4⟩
          · exact ⟨ha.lok (hR.mem_iff.mp h4), by simpa using h5⟩
        have h1 : b.ok j := by have := h.keep.n; unfold St.ok at *; (first | lia | omega)
        rcases hI.split h1 with h3 | h3
        · exact absurd h3 h2.2
        · exact h3
  have hI2 : InvF k (a.freed ++ R.filter fun j => decide (j ∉ b.live)) b :=
    ⟨hI.wf, hI.n1, hI.k12, hI.nk, hI.ek, hI.ak, hI.roots, hI.one, (hfr.symm.append_left _).trans hI.perm, hI.tot, hI.wh, hI.ph, hI.clo, hI.lm, fun i hi => hI.fm i (hfr.mem_iff.mpr hi), hI.gl, hI.gn, hI.al, hI.sl, hI.g0, hI.p03, hI.p1, hI.p2⟩
  have e : InvF k (a.freed ++ R.filter fun j => decide (j ∉ b.live)) (b.setThr ((b.est * 200).fdiv 100)) :=
    ⟨⟨hI2.wf.small, hI2.wf.sort, hI2.wf.size, hI2.wf.edge, hI2.wf.elen⟩, hI2.n1, hI2.k12, hI2.nk, hI2.ek, hI2.ak, hI2.roots, hI2.one, hI2.perm, hI2.tot, hI2.wh, hI2.ph, hI2.clo, hI2.lm, hI2.fm, hI2.gl, hI2.gn, hI2.al, hI2.sl, hI2.g0, hI2.p03,
      fun hq => by have r := hI2.p1 hq; exact ⟨r.w, r.b, r.g, r.r, r.s, r.a⟩, fun hq => by have r := hI2.p2 hq; exact ⟨r.l, r.r, r.c⟩⟩
  exact e.setFreed _
theorem InvF.stepped (h : InvF k st.freed st) : InvF k (stepped st).freed (stepped st) := h.steps.setFreed _
theorem stepped_keep (h : InvF k st.freed st) : (Mine.stepped st).n = st.n ∧ (Mine.stepped st).edges = st.edges ∧ (Mine.stepped st).cells = st.cells ∧ (Mine.stepped st).turn = st.turn ∧ (Mine.stepped st).ps = (single st).ps ∧ (Mine.stepped st).live = (single st).live := by
  have := h.keep
  exact ⟨this.n, this.edges, this.cells, this.turn, rfl, rfl⟩
end
end

section
open PySem PySem.W PySem.Calls PyProof.Rows PyProof.Rows.LCg PyProof.Rows.LCt
variable {w : World} {α : Role → Addr} {ω : Role → Obj} {ο δ : Nat → Addr} {μ : Role → Addr} {σ : Role → Obj} {st : St}
theorem said_40 : True := by
  k_with "call ref" => (((with_reducible refine' hold_in [308] ?zqr ?_); (case zqr => decide)))
  trivial
theorem mem_objs : (α .objs, σ .objs) ∈ ledW α ο δ μ σ st := mem_led (β := adr α ο δ μ) (σ := σ) (n := st.n) (r := .objs) trivial
theorem sub_keep {x : Addr × Obj} {l r : List (Addr × Obj)} (h : ∀ p ∈ l, p ∈ r) : ∀ p ∈ x :: l, p ∈ x :: r := fun p hp => by
  rcases List.mem_cons.mp hp with rfl | hp
  · exact .head _
  · exact .tail _ (h p hp)
theorem said_41 : True := by
  k_with "m_sub" => (((try simp only [List.cons_append, List.nil_append]); (repeat' (first | (with_reducible exact sub_refl) | (with_reducible refine sub_keep ?_) | (with_reducible refine sub_cons ?_))); done))
  trivial
theorem Off.sub {tmp tmp' l : List (Addr × Obj)} (h : Off tmp l) (hs : ∀ p ∈ tmp', p ∈ tmp) : Off tmp' l := fun p hp => h p (hs p hp)
theorem off_pair {D L : Addr} {x o o' : Obj} {l : List (Addr × Obj)} (l1 : ∀ q ∈ (L + 1, o) :: l, q.1 < D) (l9 : ∀ p ∈ l, p.1 < L) : Off [(D, x), (L + 1, o')] l :=
  Off.cons (fun q hq => Nat.ne_of_lt (l1 q (.tail _ hq))) (off_cell l9)
theorem off_pair2 {D L : Addr} {l : List (Addr × Obj)} (l1 : L + 1 < D ∧ AllLt D l) (l9 : ∀ p ∈ l, p.1 < L) : ∀ x o', Off [(D, x), (L + 1, o')] l := fun _ _ =>
  Off.cons (fun q hq => Nat.ne_of_lt (allLt_mem l1.2 q hq)) (off_cell l9)
theorem whole_facts {k : Nat} {b : St} {R : List Nat} (ha : InvF k st.freed st) (h : Ends k st b) (hR : R.Perm st.live) : InvF k (wholeOf b st.freed R).freed (wholeOf b st.freed R) ∧ (∀ j, j ∈ (wholeOf b st.freed R).live ↔ Reach (wholeOf b st.freed R).edges j) ∧ (wholeOf b st.freed R).phase = 0 ∧ (wholeOf b st.freed R).grey = [] ∧
    (∀ j ∈ (wholeOf b st.freed R).live, (wholeOf b st.freed R).mark j = (wholeOf b st.freed R).white) ∧ (wholeOf b st.freed R).thr = 2 * (wholeOf b st.freed R).total := by
  have h1 := whole_inv ha h hR
  have hp : (wholeOf b st.freed R).phase = 0 := h.phase
  refine ⟨h1, fun j => ?_, hp, h1.g0 (by omega), h1.p03 (.inl hp), ?_⟩
  · have e : (wholeOf b st.freed R).edges = st.edges := h.keep.edges
    rw [e]; exact h.exact j
  · show (b.est * 200).fdiv 100 = 2 * b.total
    rw [h.est, show b.total * 200 = (2 * b.total) * 100 from by omega, Int.mul_fdiv_cancel _ (by omega)]
section
theorem said_42 : True := by
  k_with "binaryOp Add ref ref" => ((fail_if_success k_extra "m_off9"); (k_here; k_dflt (refine' add_nums ?zqF ?zqN ?zqw1 ?zqw2 ?zqa1 ?zqa2 ?zqz1 ?_; (k_extra "m_sk"))))
  k_with "setItem ref" => ((fail_if_success k_extra "m_off9"); (k_here; k_dflt (refine' set_freedT (tmp := [_, _, _]) ?zqF ?zqN ?zqa1 ?zqoff ?zqG ?zqa2 ?_; (k_extra "m_sc"))))
  k_with "compareOp NotEq ref ref" => ((fail_if_success k_extra "m_off9"); (k_here; k_dflt (refine' ne_nums ?zqN ?zqk1 ?zqk2 ?zqa1 ?zqa2 ?zqun false ?zqhx ?_; (k_extra "m_s"); (case zqhx => exact sorted_ne (by assumption) (by assumption) (by assumption) (by assumption) (List.Perm.refl _)))))
  k_with "call builtin:sorted" => ((fail_if_success k_extra "m_off9"); (k_here; k_dflt (refine' sorted_keys (R := _) ?zqhh ?zqF ?zqN ?zqhm ?zqhd ?zqhk ?zqlo ?zqhne ?zqhz ?_; (case zqhh => exact rfl); (case zqF => k_asm); (case zqN => k_asm); (case zqhm => (k_extra "m_mem")); (case zqhd => assumption); (case zqhk => exact numKV_keys _ _); (case zqlo => assumption); (case zqhne => assumption); (case zqhz => omega); k_whole; intro D' h' tk' vs' R' c' F' N' l1 hv' hp' ho'; (try k_lt l1); (try k_sweep))))
  trivial
theorem whole_spec (Fn : Fns w α ω) {k : Nat} (G : Good w α ω ο δ μ σ st) (hI : InvF k st.freed st) :
    Runs w 426 [.ref (α .world)] 400 4000 (ledW α ο δ μ σ st) (PostW w α ω ο δ fun v μ' st' => v = .bool true ∧ ∃ b R, Ends k st b ∧ R.Perm st.live ∧ st' = wholeOf b st.freed R) := by
  have hsm := hI.wf.small
  have hll := hI.llen
  have hone := hI.one
  have hobj : (α .objs, σ .objs) ∈ ledW α ο δ μ σ st := mem_led (β := adr α ο δ μ) (σ := σ) (n := st.n) (r := .objs) trivial
  have hdo : (σ .objs).IsDictOf (iK w) (numKV ο st.live) := G.sh .objs trivial
  have lo9 : (α .objs == sysModules) = false := G.low (r := .objs) trivial
  have hne0 : st.live ≠ [] := by intro e; rw [e] at hone; cases hone
  obtain ⟨n1, n2, st2, b, C1, hw2, C2, hE⟩ := full_runs hI
  (k_extra "m_enterC")
  k_steps
  unfold Hold
  (try k_fold)
  rename (∀ p ∈ ledW α ο δ μ σ st, p.1 < _) => l9
  rename (_ < _ ∧ AllLt _ (ledW _ _ _ _ _ _)) => lD
  have off1 := off_pair2 lD l9
  ((refine' Runs.callT (full_spec Fn G (by omega) C1 hw2 C2) (off1 _ _) ?Bq56 ?Fq56 ?Xq56 ?Nq56 ?Tq56 ?hAq56 ?hfq56 ?hkq56 ?hhq56 ?hdq56 ?huq56 ?_; (case Bq56 => k_asm); (case Fq56 => k_asm); (case Xq56 => k_asm); (case Nq56 => (k_extra "m_news")); (case Tq56 => k_asm); (case hAq56 => exact rfl); (case hfq56 => exact rfl); (case hkq56 => exact rfl); (case hhq56 => exact rfl); (case hdq56 => (k_extra "m_room")); (case huq56 => (k_extra "m_units")); k_whole))
  refine kE2 ?_
  intro μ9 σ9 h9 tk9 F9 N9 off9 G9 hμ
  (try dsimp only)
  (try k_fold)
  (try dsimp only [List.cons_append, List.nil_append] at N9)
  rename List Nat => R
  rename Nums _ R => hvR
  rename List.Perm R _ => hpR
  have hRl : R.length ≤ 15 := by rw [hpR.length_eq]; omega
  have hvl := hvR.len
  obtain ⟨s4, e4⟩ : ∃ s4, s4 = b.setThr ((b.est * 200).fdiv 100) := ⟨_, rfl⟩
  rw [← e4] at G9 N9 off9
  have hl4 : s4.live = b.live := by rw [e4]; rfl
  have e5 : s4.setFreed (s4.freed ++ R.filter fun j => decide (j ∉ s4.live)) = wholeOf b st.freed R := by rw [e4, ← hE.keep.freed]; rfl
  have e7 := whole_facts hI hE hpR
  have hI5 := e7.1
  have hx5 := e7.2.1
  have hp5 := e7.2.2.1
  have hg5 := e7.2.2.2.1
  have hm5 := e7.2.2.2.2.1
  have ht5 := e7.2.2.2.2.2
  clear e7
  have hf4 : s4.freed.length ≤ 15 := by
    have e : s4.freed = st.freed := by rw [e4, ← hE.keep.freed]; rfl
    rw [e]
    have := hI.perm.length_eq
    rw [List.length_append, upTo_len] at this; omega
  clear e4 hobj hdo off1
  obtain ⟨fvs, ⟨kf, eF⟩, hfn⟩ := G9.sh .freed trivial
  have hfr : (μ9 .freed, PySem.W.listOf fvs.toArray kf) ∈ ledW α ο δ μ9 σ9 s4 := by
    have := mem_led (β := adr α ο δ μ9) (σ := σ9) (n := s4.n) (r := .freed) trivial
    rw [eF] at this; exact this
  have hflen := hfn.len
  k_steps
  unfold Hold
  (try k_fold)
  (with_reducible rename Fr _ _ _ _ => F1)
  (try dsimp only)
  refine ListComp_TG F1 (by with_unfolding_all rfl) (by decide) (by rfl) (by decide) (by rfl) ?_
  k_steps
  (with_reducible rename Fr _ _ _ _ => F1)
  (with_reducible rename News _ _ _ _ => N1)
  refine SrcG.list rfl F1 N1 (by k_mem) (by rw [hvl]; omega) fun g => Mine.CompRestT.read (fun i => decide (R.getD i 0 ∉ s4.live)) (fun i y => ∃ j t, R[i]? = some j ∧ y = .int (j : Nat) t) ?_ ?_ ?_
  · k_mem
  · clear F1 N1
    intro ys hp
    rw [hvl] at hp
    have hys := nums_of_paired (p := fun j => decide (j ∉ s4.live)) (fun i => rfl) hp
    have hyl : (R.filter fun j => decide (j ∉ s4.live)).length ≤ 15 := Nat.le_trans (List.length_filter_le _ _) hRl
    intro D3 h6 tk6 F6 N6 o2
    have off4 := Off.cons (p := (D3, lst ys)) (fun q hq => Off1.mem' o2 q (.tail _ (.tail _ hq))) off9
    have hOn : HoldOn := trivial
    (try dsimp only)
    k_steps
    unfold Hold
    (try k_fold)
    (with_reducible rename HoldOn => hOn9)
    clear hOn9 off4 hfr eF hfn hflen hyl hys hp o2 off9 G9 hf4
    (with_reducible rename Fr _ _ _ _ => F1)
    (with_reducible rename News _ _ _ _ => N1)
    rename Good _ _ _ _ _ _ _ _ => G5
    rename Off _ (ledW _ _ _ _ _ _) => off5
    rename Role → Obj => σ5
    rw [e5] at G5 N1 off5
    have hpost : ∀ s5, s5 = wholeOf b st.freed R → ∃ b R, Ends k st b ∧ R.Perm st.live ∧ s5 = wholeOf b st.freed R := fun s5 e => ⟨b, R, hE, hpR, e⟩
    clear e5
    generalize wholeOf b st.freed R = s5 at hI5 hx5 hp5 hg5 hm5 ht5 G5 N1 off5 hpost
    have hsm5 := hI5.wf.small
    have hll5 := hI5.llen
    have hgl5 := hI5.glen
    have hone5 := hI5.one
    have hdo5 : (σ5 .objs).IsDictOf (iK w) (numKV ο s5.live) := G5.sh .objs trivial
    have hne5 : s5.live ≠ [] := by intro e; rw [e] at hone5; cases hone5
    (try dsimp only)
    k_steps
    unfold Hold
    (try k_fold)
    rename (_ < _ ∧ _ < _ ∧ _ < _ ∧ AllLt _ (ledW _ _ _ _ _ _)) => l6
    rename Nat => c6
    rename List Nat => R6
    rename List Value => vs6
    rename Nums _ R6 => hv6
    rename List.Perm R6 _ => hp6
    ((refine' Runs.callT (reached_spec G5 hI5.wf hI5.n1) (Off.cons (p := (_, PySem.W.listOf vs6.toArray c6)) (fun q hq => Nat.ne_of_lt (allLt_mem l6.2.2.2 q hq)) (Off.sub (tmp' := [_]) off5 (sub_cons (sub_cons sub_refl)))) ?Bq57 ?Fq57 ?Xq57 ?Nq57 ?Tq57 ?hAq57 ?hfq57 ?hkq57 ?hhq57 ?hdq57 ?huq57 ?_; (case Bq57 => k_asm); (case Fq57 => k_asm); (case Xq57 => k_asm); (case Nq57 => (k_extra "m_news")); (case Tq57 => k_asm); (case hAq57 => exact rfl); (case hfq57 => exact rfl); (case hkq57 => exact rfl); (case hhq57 => exact rfl); (case hdq57 => (k_extra "m_room")); (case huq57 => (k_extra "m_units")); k_whole))
    refine kE9 ?_
    intro D7 vs7 R7 c7 h7 tk7 F7 N7 off7 offD7 hv7 hnd7 hso7 hR7
    (try dsimp only)
    (try k_fold)
    (try dsimp only [List.cons_append, List.nil_append] at N7)
    have hp7 : R7.Perm s5.live := (List.perm_ext_iff_of_nodup hnd7 hI5.lnd).mpr fun j => (hR7 j).trans (hx5 j).symm
    k_steps
    unfold Hold
    (try k_fold)
    ((refine' Runs.callT (held_spec G5 hI5.wf hI5.n1 (hI5.held rfl) (fun i hi => hI5.lok (hI5.gl i hi).1) (by omega)) (Off.sub (tmp' := [_]) off5 (sub_cons (sub_cons sub_refl))) ?Bq58 ?Fq58 ?Xq58 ?Nq58 ?Tq58 ?hAq58 ?hfq58 ?hkq58 ?hhq58 ?hdq58 ?huq58 ?_; (case Bq58 => k_asm); (case Fq58 => k_asm); (case Xq58 => k_asm); (case Nq58 => (k_extra "m_news")); (case Tq58 => k_asm); (case hAq58 => exact rfl); (case hfq58 => exact rfl); (case hkq58 => exact rfl); (case hhq58 => exact rfl); (case hdq58 => (k_extra "m_room")); (case huq58 => (k_extra "m_units")); k_whole))
    refine kRT ?_
    intro h8 tk8 F8 N8 off8
    (try dsimp only)
    (try k_fold)
    (try dsimp only [List.cons_append, List.nil_append] at N8)
    clear off7 hv7 hnd7 hso7 hR7 hp7 hv6 hp6 l6 offD7 hx5
    k_steps
    unfold Hold
    (try k_fold)
    (with_reducible rename Fr _ _ _ _ => F1)
    (try dsimp only)
    refine ListComp_TG F1 (by with_unfolding_all rfl) (by decide) (by rfl) (by decide) (by rfl) ?_
    k_steps
    (with_reducible rename Fr _ _ _ _ => F1)
    (with_reducible rename News _ _ _ _ => N1)
    refine SrcG.values (knd := iK w) rfl F1 N1 (by k_mem) (.tail _ (.tail _ mem_objs)) hdo5 (by rw [numKV_len]; omega) fun g => Mine.CompRestT.read (fun _ => false) (fun _ _ => False) ?_ ?_ ?_
    · exact .tail _ (.tail _ mem_objs)
    · clear F1 N1
      intro ys hp
      have : ys = [] := paired_none hp
      subst this
      intro D9 h9 tk9 F9 N9 o9
      have hd0 : decide (s5.grey ≠ []) = false := by simp [hg5]
      (try dsimp only)
      k_steps
      (k_extra "m_done")
      exact ⟨by rw [show (s5.thr == 2 * s5.total) = true from by simp [ht5]], hpost _ rfl⟩
    · clear F1 N1
      intro i v I oI C oC D ys m₂ h9 tk9 E' hi hv9 hC hx F9 N9 o9 ne
      obtain ⟨kk, hkk⟩ := hv9
      obtain ⟨j, hj, rfl⟩ := numKV_get hkk
      have hjl := List.mem_of_getElem? hj
      have hjk := hI5.lok hjl
      have hmj : (s5.mark j != s5.white) = false := by simp [hm5 j hjl]
      (try dsimp only)
      k_steps
      exact RdEnd.intro (by k_asm) (by k_asm) (by (k_extra "m_sub"))
  · clear F1 N1
    intro i v I oI C oC D2 ys m₂ h7 tk7 E' hi hv7 hC hx F7 N7 o3 ne
    obtain ⟨j, t9, hj, rfl⟩ := hvR.get hv7
    have hgd : R.getD i 0 = j := by rw [List.getD_eq_getElem?_getD, hj]; rfl
    (try dsimp only)
    by_cases hjl : j ∈ s4.live
    · k_steps
      · rw [hgd]; simpa
      · exact RdEnd.intro (by k_asm) (by k_asm) (by (k_extra "m_sub"))
    · k_steps
      · rw [hgd]; simpa
      · exact RdEnd.intro (by k_asm) (by k_asm) (by (k_extra "m_sub"))
end
end

section
open PySem PySem.W PySem.Calls PyProof.Rows PyProof.Rows.LCg
section
variable {prog : Program} {w : World} {A : Around} {E : Value → Shared → Prop} {s : Shared} {env : Env} {h₀ : Heap} {x : Str} {body : List Stmt} {Q : Flow → Shared → Prop}
theorem said_43 : True := by
  k_with "m_off9" => (skip)
  trivial
theorem range_iter_W {r : Addr} {n : Nat} {t₁ u₁ v₁ : Tok} {m₀ : Str → Option Value} {news : List (Addr × Obj)} (J : Nat → (Str → Option Value) → List (Addr × Obj) → Prop)
    (hh : A.handled = none) (F : Fr h₀ env.locals s.heap m₀) (N : News h₀ env.locals s.heap news) (hr : IsRange s.heap r 0 (n : Int) 1 t₁ u₁ v₁) (hn : n ≤ 1000) (h0 : J 0 m₀ news)
    (turn : ∀ (i : Nat) t m₁ news₁ I io h tk, i < n → J i m₁ news₁ → (∀ p ∈ news₁, p.1 ≠ I) → Fr h₀ env.locals h (fun y => if y = x then some (.int (i : Int) t) else m₁ y) → News h₀ env.locals h ((I, io) :: news₁) →
      wpAny (model prog w) A (execs body env) (TurnEnd h₀ env.locals (J (i + 1)) I io s Q) E { s with heap := h, toks := tk })
    (done : ∀ m₁ news₁ h tk, J n m₁ news₁ → Fr h₀ env.locals h m₁ → News h₀ env.locals h news₁ → Q .next { s with heap := h, toks := tk }) :
    wpAny (model prog w) A (pyIter (.ref r)) (fun it s₂ => LoopAtV prog w A h₀ env x body Q E it s₂) E s := by
  have hsz : Builtin.Range.rangeSize 0 (n : Int) 1 = (n : Int) := by rw [rangeSize_one]; split <;> (first | lia | omega)
  refine wpAny_pyIter_range hr (small_one (by (first | lia | omega)) (by (first | lia | omega)) (by (first | lia | omega)) (by (first | lia | omega))) ?_
  have Wk := range_walks (prog := prog) (w := w) (A := A) (I := s.heap.objs.size) hh 0 n
  refine ⟨_, _, _, n, _, _, m₀, news, J, rfl, Wk, ?_, ?_, ?_, (by show IsRangeIter _ _ _ _ _; rw [hsz]; simpa using Heap.get?_push_size _ rfl), F.push _, (fun p hp => ⟨Heap.get?_push_of_some _ (N p hp).1, (N p hp).2⟩), h0, ?_, ?_⟩
  · intro hq
    have e : env.locals = s.heap.objs.size := List.mem_singleton.mp hq
    exact absurd F.ns.lt (e ▸ Nat.lt_irrefl _)
  · intro b hb
    rw [List.mem_singleton.mp hb]
    exact next_is_new F
  · intro p hp hI
    exact absurd (Heap.lt_size (N p hp).1) ((List.mem_singleton.mp hI) ▸ Nat.lt_irrefl _)
  · rintro i v m₁ news₁ s₁ own ⟨hh', tk', rfl⟩ hin ⟨t, rfl⟩ hJi hoff hown hownget hall hst F₁ N₁
    have hfreshI : h₀.get? s.heap.objs.size = none := next_is_new F
    obtain ⟨oI, hI⟩ : ∃ oI, hh'.get? s.heap.objs.size = some oI := ⟨_, hst⟩
    have mI := hall _ (by simp) hfreshI _ hI
    have hoff' : ∀ p ∈ news₁, p.1 ≠ s.heap.objs.size := fun p hp e => hoff p hp (by rw [e]; exact .head _)
    have N₂ : News h₀ env.locals hh' ((s.heap.objs.size, oI) :: news₁) := fun p hp => by
      rcases List.mem_cons.mp hp with rfl | hp
      · exact N₁ _ (List.mem_append_left _ mI)
      · exact N₁ p (List.mem_append_right _ hp)
    have F₂ : Fr h₀ env.locals hh' (fun y => if y = x then some (.int (i : Int) t) else m₁ y) := by
      have e : (0 : Int) + (i : Int) = (i : Int) := by (first | lia | omega)
      rw [e] at F₁; exact F₁
    refine wpAny_mono (turn i t m₁ news₁ _ _ hh' tk' hin hJi hoff' F₂ N₂) (fun f s₂ p => ?_) fun _ _ e => e
    have fin : (∃ h' tk' m' news', s₂ = ⟨h', s.gens, s.drawn, tk', s.os⟩ ∧ Fr h₀ env.locals h' m' ∧ News h₀ env.locals h' ((s.heap.objs.size, oI) :: news') ∧ (∀ p ∈ news', p.1 ≠ s.heap.objs.size) ∧ J (i + 1) m' news') →
        LoopStepU h₀ env.locals [s.heap.objs.size] own (J (i + 1)) { s with heap := hh', toks := tk' } .next s₂ := by
      rintro ⟨h', tk, m', news', rfl, F', N', ho, hm⟩
      refine ⟨rfl, h', tk, m', news', rfl, F', fun p hp => ?_, fun p hp hq => ho p hp (List.mem_singleton.mp hq), hm⟩
      rcases List.mem_append.mp hp with h1 | h1
      · have a1 := hownget p h1
        have e := List.mem_singleton.mp (hown p h1)
        rw [e, hI] at a1
        have : p = (s.heap.objs.size, oI) := Prod.ext e (Option.some.inj a1).symm
        rw [this]; exact N' _ (.head _)
      · exact N' p (.tail _ h1)
    cases f with
    | ret v => exact .ret p
    | brk => exact .brk p
    | next => exact .next (fin p)
    | cont => exact .cont (fin p)
  · rintro h' tk m' news' F' N' _ hJn
    exact done m' news' h' tk hJn F' N'
theorem range_W {n : Nat} {t : Tok} {m₀ : Str → Option Value} {news : List (Addr × Obj)} (J : Nat → (Str → Option Value) → List (Addr × Obj) → Prop)
    (hh : A.handled = none) (F : Fr h₀ env.locals s.heap m₀) (N : News h₀ env.locals s.heap news) (hn : n ≤ 1000) (h0 : J 0 m₀ news)
    (turn : ∀ (i : Nat) t m₁ news₁ I io h tk, i < n → J i m₁ news₁ → (∀ p ∈ news₁, p.1 ≠ I) → Fr h₀ env.locals h (fun y => if y = x then some (.int (i : Int) t) else m₁ y) → News h₀ env.locals h ((I, io) :: news₁) →
      wpAny (model prog w) A (execs body env) (TurnEnd h₀ env.locals (J (i + 1)) I io s Q) E { s with heap := h, toks := tk })
    (done : ∀ m₁ news₁ h tk, J n m₁ news₁ → Fr h₀ env.locals h m₁ → News h₀ env.locals h news₁ → Q .next { s with heap := h, toks := tk }) :
    wpAny (model prog w) A (call (.type "range") [.int (n : Int) t]) (fun xv s₁ => wpAny (model prog w) A (pyIter xv) (fun it s₂ => LoopAtV prog w A h₀ env x body Q E it s₂) E s₁) E s := by
  refine range1_rows F N fun h' tk t₁ u₁ v₁ hr F' N' _ => ?_
  exact range_iter_W (s := { s with heap := h', toks := tk }) J hh F' N' hr hn h0 turn done
/-- names that a loop sets -/
noncomputable def Sets (ns : List Str) (m m' : Str → Option Value) : Prop := ∀ y, y ∉ ns → m' y = m y
theorem Sets.refl (ns : List Str) (m : Str → Option Value) : Sets ns m m := fun _ _ => rfl
theorem Sets.one {ns : List Str} {m m' : Str → Option Value} {y : Str} {v : Option Value} (h : Sets ns m m') (hy : y ∈ ns) : Sets ns m (fun z => if z = y then v else m' z) := fun z hz => by
  have : z ≠ y := fun e => hz (e ▸ hy)
  show (if z = y then v else m' z) = m z
  rw [if_neg this]; exact h z hz
theorem while_W1 {test : Expr} {pos : Pos} {M : Str → Option Value} {news : List (Addr × Obj)} (y : Str) (J : Nat → Value → List (Addr × Obj) → Prop) {n₀ : Nat} {v₀ : Value} {L : Addr}
    (F : Fr h₀ L s.heap M) (N : News h₀ L s.heap news) (hv : M y = some v₀) (hJ : J n₀ v₀ news)
    (turn : ∀ n v news₁ h₁ tk₁, Fr h₀ L h₁ (fun z => if z = y then some v else M z) → News h₀ L h₁ news₁ → J n v news₁ →
      wpAny (model prog w) A (isTrue test env (eval test env)) (fun b s₂ =>
        if b = true then wpAny (model prog w) A (execs body env) (WhEnd h₀ L s (fun n' m' nw => ∃ v', m' = (fun z => if z = y then some v' else M z) ∧ J n' v' nw) n Q) E s₂ else Q .next s₂) E { s with heap := h₁, toks := tk₁ })
    (hE : PassesOwn (model prog w) A env E := by passes_own) :
    wpAny (model prog w) A (exec (.While test body [] pos) env) Q E s := by
  refine while_W (fun n m' nw => ∃ v', m' = (fun z => if z = y then some v' else M z) ∧ J n v' nw) F N ⟨v₀, ?_, hJ⟩ ?_ hE
  · funext z
    split
    · rename_i h; rw [h, hv]
    · rfl
  · rintro n m₁ news₁ h₁ tk₁ F₁ N₁ ⟨v, rfl, hJ₁⟩
    exact turn n v news₁ h₁ tk₁ F₁ N₁ hJ₁
/-- a range's loop that sets two names and its own -/
theorem range_W2 {n : Nat} {t : Tok} {M : Str → Option Value} {news : List (Addr × Obj)} (n1 n2 : Str) (K : Nat → List (Addr × Obj) → Prop)
    (hh : A.handled = none) (F : Fr h₀ env.locals s.heap M) (N : News h₀ env.locals s.heap news) (hn : n ≤ 1000) (h0 : K 0 news)
    (turn : ∀ (i : Nat) t u1 u2 u3 news₁ I io h tk, i < n → K i news₁ → (∀ p ∈ news₁, p.1 ≠ I) → Fr h₀ env.locals h (fun y => if y = x then some (.int (i : Int) t) else if y = n1 then u1 else if y = n2 then u2 else if y = x then u3 else M y) → News h₀ env.locals h ((I, io) :: news₁) →
      wpAny (model prog w) A (execs body env) (TurnEnd h₀ env.locals (fun m' nw => (∃ u1 u2 u3, m' = fun y => if y = n1 then u1 else if y = n2 then u2 else if y = x then u3 else M y) ∧ K (i + 1) nw) I io s Q) E { s with heap := h, toks := tk })
    (done : ∀ u1 u2 u3 news₁ h tk, K n news₁ → Fr h₀ env.locals h (fun y => if y = n1 then u1 else if y = n2 then u2 else if y = x then u3 else M y) → News h₀ env.locals h news₁ → Q .next { s with heap := h, toks := tk }) :
    wpAny (model prog w) A (call (.type "range") [.int (n : Int) t]) (fun xv s₁ => wpAny (model prog w) A (pyIter xv) (fun it s₂ => LoopAtV prog w A h₀ env x body Q E it s₂) E s₁) E s := by
  refine range_W (fun i m' nw => (∃ u1 u2 u3, m' = fun y => if y = n1 then u1 else if y = n2 then u2 else if y = x then u3 else M y) ∧ K i nw) hh F N hn ⟨⟨M n1, M n2, M x, ?_⟩, h0⟩ ?_ ?_
  · funext y
    split
    · rename_i h; rw [h]
    split
    · rename_i h; rw [h]
    split
    · rename_i h; rw [h]
    rfl
  · rintro i t m₁ news₁ I io h tk hi ⟨⟨u1, u2, u3, rfl⟩, hK⟩ hoff F₁ N₁
    exact turn i t u1 u2 u3 news₁ I io h tk hi hK hoff F₁ N₁
  · rintro m₁ news₁ h tk ⟨⟨u1, u2, u3, rfl⟩, hK⟩ F₁ N₁
    exact done u1 u2 u3 news₁ h tk hK F₁ N₁
end
end

section
open PySem PySem.W PySem.Calls PyProof.Rows PyProof.Rows.LCg
theorem coll_ab {a b : Str} {x1 x2 u1 u2 : Option Value} {M : Str → Option Value} :
    (fun y => if y = a then x1 else if y = b then x2 else if y = a then u1 else if y = b then u2 else M y) = fun y => if y = a then x1 else if y = b then x2 else M y := by
  funext y
  by_cases h1 : y = a
  · simp only [if_pos h1]
  · by_cases h2 : y = b
    · simp only [if_neg h1, if_pos h2]
    · simp only [if_neg h1, if_neg h2]
section
variable {prog : Program} {w : World} {A : Around} {E : Value → Shared → Prop} {s : Shared} {env : Env} {h₀ : Heap} {x : Str} {body : List Stmt} {Q : Flow → Shared → Prop}
/-- a range's loop that sets one name and its own -/
theorem range_W1 {n : Nat} {t : Tok} {M : Str → Option Value} {news : List (Addr × Obj)} (n1 : Str) (K : Nat → List (Addr × Obj) → Prop)
    (hh : A.handled = none) (F : Fr h₀ env.locals s.heap M) (N : News h₀ env.locals s.heap news) (hn : n ≤ 1000) (h0 : K 0 news)
    (turn : ∀ (i : Nat) t u1 u3 news₁ I io h tk, i < n → K i news₁ → (∀ p ∈ news₁, p.1 ≠ I) → Fr h₀ env.locals h (fun y => if y = x then some (.int (i : Int) t) else if y = n1 then u1 else if y = x then u3 else M y) → News h₀ env.locals h ((I, io) :: news₁) →
      wpAny (model prog w) A (execs body env) (TurnEnd h₀ env.locals (fun m' nw => (∃ u1 u3, m' = fun y => if y = n1 then u1 else if y = x then u3 else M y) ∧ K (i + 1) nw) I io s Q) E { s with heap := h, toks := tk })
    (done : ∀ u1 u3 news₁ h tk, K n news₁ → Fr h₀ env.locals h (fun y => if y = n1 then u1 else if y = x then u3 else M y) → News h₀ env.locals h news₁ → Q .next { s with heap := h, toks := tk }) :
    wpAny (model prog w) A (call (.type "range") [.int (n : Int) t]) (fun xv s₁ => wpAny (model prog w) A (pyIter xv) (fun it s₂ => LoopAtV prog w A h₀ env x body Q E it s₂) E s₁) E s := by
  refine range_W (fun i m' nw => (∃ u1 u3, m' = fun y => if y = n1 then u1 else if y = x then u3 else M y) ∧ K i nw) hh F N hn ⟨⟨M n1, M x, ?_⟩, h0⟩ ?_ ?_
  · funext y
    split
    · rename_i h; rw [h]
    split
    · rename_i h; rw [h]
    rfl
  · rintro i t m₁ news₁ I io h tk hi ⟨⟨u1, u3, rfl⟩, hK⟩ hoff F₁ N₁
    exact turn i t u1 u3 news₁ I io h tk hi hK hoff F₁ N₁
  · rintro m₁ news₁ h tk ⟨⟨u1, u3, rfl⟩, hK⟩ F₁ N₁
    exact done u1 u3 news₁ h tk hK F₁ N₁
/-- a range's loop that sets its own name -/
theorem range_W0 {n : Nat} {t : Tok} {M : Str → Option Value} {news : List (Addr × Obj)} (K : Nat → List (Addr × Obj) → Prop)
    (hh : A.handled = none) (F : Fr h₀ env.locals s.heap M) (N : News h₀ env.locals s.heap news) (hn : n ≤ 1000) (h0 : K 0 news)
    (turn : ∀ (i : Nat) t u3 news₁ I io h tk, i < n → K i news₁ → (∀ p ∈ news₁, p.1 ≠ I) → Fr h₀ env.locals h (fun y => if y = x then some (.int (i : Int) t) else if y = x then u3 else M y) → News h₀ env.locals h ((I, io) :: news₁) →
      wpAny (model prog w) A (execs body env) (TurnEnd h₀ env.locals (fun m' nw => (∃ u3, m' = fun y => if y = x then u3 else M y) ∧ K (i + 1) nw) I io s Q) E { s with heap := h, toks := tk })
    (done : ∀ u3 news₁ h tk, K n news₁ → Fr h₀ env.locals h (fun y => if y = x then u3 else M y) → News h₀ env.locals h news₁ → Q .next { s with heap := h, toks := tk }) :
    wpAny (model prog w) A (call (.type "range") [.int (n : Int) t]) (fun xv s₁ => wpAny (model prog w) A (pyIter xv) (fun it s₂ => LoopAtV prog w A h₀ env x body Q E it s₂) E s₁) E s := by
  refine range_W (fun i m' nw => (∃ u3, m' = fun y => if y = x then u3 else M y) ∧ K i nw) hh F N hn ⟨⟨M x, ?_⟩, h0⟩ ?_ ?_
  · funext y
    split
    · rename_i h; rw [h]
    rfl
  · rintro i t m₁ news₁ I io h tk hi ⟨⟨u3, rfl⟩, hK⟩ hoff F₁ N₁
    exact turn i t u3 news₁ I io h tk hi hK hoff F₁ N₁
  · rintro m₁ news₁ h tk ⟨⟨u3, rfl⟩, hK⟩ F₁ N₁
    exact done u3 news₁ h tk hK F₁ N₁
end
/-- how the law ends -/
noncomputable def LawEnd (g : Heap) (L : Addr) (gens : Array GenState) (drawn : Drawn) (os : OsState) (fl : Flow) (s' : Shared) : Prop :=
  fl = .ret (.bool true) ∧ ∃ h' tk' m' news' ps, s' = ⟨h', gens, drawn, tk', os⟩ ∧ Fr g L h' m' ∧ News g L h' news' ∧ (428, tabObj ps) ∈ news'
theorem law_cut {M : Model} {A : Around} {T : Sem Flow} {Q : Flow → Shared → Prop} {E : Value → Shared → Prop} {g : Heap} {L : Addr} {h₁ : Heap} {m : Str → Option Value} {news : List (Addr × Obj)} {gens : Array GenState} {drawn : Drawn} {tk : Nat} {os : OsState}
    (_F : Fr g L h₁ m) (_N : News g L h₁ news) (h : wpAny M A T (LawEnd g L gens drawn os) (fun _ _ => False) ⟨h₁, gens, drawn, tk, os⟩)
    (k : ∀ h' tk' m' news' ps, Fr g L h' m' → News g L h' news' → (428, tabObj ps) ∈ news' → Q (.ret (.bool true)) ⟨h', gens, drawn, tk', os⟩) : wpAny M A T Q E ⟨h₁, gens, drawn, tk, os⟩ := by
  refine wpAny_mono h (fun fl s' hD => ?_) (fun _ _ e => e.elim)
  obtain ⟨rfl, h', tk', m', news', ps, rfl, F', N', hm⟩ := hD
  exact k h' tk' m' news' ps F' N' hm
theorem LawEnd.intro {g h' : Heap} {L : Addr} {gens : Array GenState} {drawn : Drawn} {os : OsState} {tk' : Nat} {m' : Str → Option Value} {news' : List (Addr × Obj)} {ps : Array Value} (F : Fr g L h' m') (N : News g L h' news') (hm : (428, tabObj ps) ∈ news') :
    LawEnd g L gens drawn os (.ret (.bool true)) ⟨h', gens, drawn, tk', os⟩ := ⟨rfl, h', tk', m', news', ps, rfl, F, N, hm⟩
theorem stored_app {kvs : List (Str × Value)} {name : Str} {v : Value} (h : (kvs.any fun kv => decide (kv.1 = name)) = false) : stored kvs name v = kvs ++ [(name, v)] := by unfold stored; rw [if_neg (by rw [h]; decide)]
end

section
open PySem PySem.W PyProof.Rows
section
variable {k : Nat} {fr : List Nat} {st : St}
/-- what a deed keeps -/
structure Kp (a b : St) : Prop where
  freed : b.freed = a.freed
  ps : b.ps = a.ps
  pe : b.pe = a.pe
  cells : b.cells = a.cells
theorem SameM.kp {a b : St} (h : SameM a b) : Kp a b := ⟨by rw [h], by rw [h], by rw [h], by rw [h]⟩
theorem SameA.kp {a b : St} (h : SameA a b) : Kp a b := ⟨by rw [h], by rw [h], by rw [h], by rw [h]⟩
theorem SameS.kp {a b : St} (h : SameS a b) : Kp a b := ⟨by rw [h], by rw [h], by rw [h], by rw [h]⟩
theorem barrier_kp (st : St) (p c : Nat) (b : Bool) : Kp st (barrier st p c b) := by
  unfold barrier
  split
  · exact ⟨rfl, rfl, rfl, rfl⟩
  · split
    · exact (markF_same 20 st c).kp
    · exact ⟨rfl, rfl, rfl, rfl⟩
theorem barrierBack_kp (st : St) (p : Nat) : Kp st (barrierBack st p) := by
  unfold barrierBack
  split <;> exact ⟨rfl, rfl, rfl, rfl⟩
theorem atomic_kp (h : InvF k fr st) (hp : st.phase = 1) : Kp st (atomic st) := by
  have hs := (h.fi hp).sd.same.kp
  unfold atomic flip
  generalize finish st = f at hs ⊢
  exact ⟨hs.freed, hs.ps, hs.pe, hs.cells⟩
theorem single_kp (h : InvF k fr st) : Kp st (single st) := by
  rcases h.ph with hp | hp | hp | hp
  · rw [single_0 hp]
    have hs : SameA st (begin st) := (forget_same st).trans (foldF_same 20 st.roots (forget st)).a
    exact ⟨hs.kp.freed, hs.kp.ps, hs.kp.pe, hs.kp.cells⟩
  · cases hgl : st.grey.getLast? with
    | none => rw [single_1e hp (List.getLast?_eq_none_iff.mp hgl)]; exact atomic_kp h hp
    | some i =>
      have hg := last_split hgl
      rw [single_1 hp hg]
      exact (propAt_pr h.wg hg).same.kp
  · rw [single_2 hp]
    have hs := (h.sws hp).same.kp
    exact ⟨hs.freed, hs.ps, hs.pe, hs.cells⟩
  · rw [single_3 hp]; exact ⟨rfl, rfl, rfl, rfl⟩
theorem InvF.wgEdge (h : InvF k fr st) {p c : Nat} (hc : st.ok c) (hlen : (st.edges p).length ≤ 90) : Wg (st.setEdge p (st.edges p ++ [c])) := by
  have w := h.wg
  refine ⟨⟨w.wf.small, w.wf.sort, w.wf.size, fun i hi x hx => ?_, fun i hi => ?_⟩, w.grey, w.again, w.roots, w.sum⟩
  · have hx : x ∈ (if i = p then st.edges p ++ [c] else st.edges i) := hx
    by_cases e : i = p
    · subst e
      rw [if_pos rfl] at hx
      rcases List.mem_append.mp hx with h1 | h1
      · exact w.wf.edge i hi x h1
      · rw [List.mem_singleton.mp h1]; exact hc
    · rw [if_neg e] at hx; exact w.wf.edge i hi x hx
  · show (if i = p then st.edges p ++ [c] else st.edges i).length ≤ 100
    by_cases e : i = p
    · rw [if_pos e, List.length_append, List.length_singleton]; (first | lia | omega)
    · rw [if_neg e]; exact w.wf.elen i hi
/-- a reached one has not the other white -/
theorem InvF.reach2 (h : InvF k fr st) (hp : st.phase = 2) {i : Nat} (hr : Reach st.edges i) : st.mark i ≠ 1 - st.white := by
  have q := h.p2 hp
  induction hr with
  | root => exact q.r
  | edge hi hc ih => exact q.c _ (h.reach _ hi) ih _ hc
theorem InvF.dropped (h : InvF k fr st) {p : Nat} (hp : p ∈ st.live) : InvF k fr (st.setEdge p ((st.edges p).drop 1)) := by
  have hm : ∀ x ∈ (st.edges p).drop 1, x ∈ st.edges p := fun x hx => List.mem_of_mem_drop hx
  refine h.edged (fun x hx => h.clo p hp x (hm x hx)) ?_ (fun h1 h2 x hx => (h.p1 h1).b p hp h2 x (hm x hx)) (fun h1 h2 x hx => (h.p2 h1).c p hp h2 x (hm x hx))
  have := h.ek p (h.lok hp)
  rw [List.length_drop]; (first | lia | omega)
theorem InvF.greyLen (h : InvF k fr st) : st.grey.length ≤ 1000 := by have := h.glen; have := h.wf.small; (first | lia | omega)
end
end

section
open PySem PySem.W PySem.Calls PyProof.Rows PyProof.Rows.LCg PyProof.Rows.LCt
variable {w : World} {α : Role → Addr} {ω : Role → Obj} {ο δ : Nat → Addr} {μ : Role → Addr} {σ : Role → Obj} {st : St}
theorem said_44 : True := by
  k_with "exec For Name Call cons nil" => ((refine Hold.mk ?_))
  k_with "call type:range" => ((refine Hold.mk ?_))
  trivial
theorem sub_one {x : Addr × Obj} {l : List (Addr × Obj)} : ∀ p ∈ l, p ∈ x :: l := fun p hp => .tail _ hp
theorem coll_sg {a b c : Str} {x1 x2 x3 x4 u1 u2 u3 : Option Value} {M : Str → Option Value} (hab : ¬ a = b) :
    (fun y => if y = b then x1 else if y = a then x2 else if y = b then x3 else if y = c then x4 else if y = a then u1 else if y = b then u2 else if y = c then u3 else M y) = fun y => if y = a then x2 else if y = b then x1 else if y = c then x4 else M y := by
  funext y
  by_cases h1 : y = a
  · have h2 : ¬ y = b := fun e => hab (h1.symm.trans e)
    simp only [if_neg h2, if_pos h1]
  · by_cases h2 : y = b
    · simp only [if_pos h2, if_neg h1]
    · by_cases h3 : y = c
      · simp only [if_neg h1, if_neg h2, if_pos h3]
      · simp only [if_neg h1, if_neg h2, if_neg h3]
/-- the inner loop -/
noncomputable def CycJ (w : World) (α : Role → Addr) (ω : Role → Obj) (ο δ : Nat → Addr) (k many : Nat) (g : Int) (I : Addr × Obj) (n : Nat) (v : Value) (nw : List (Addr × Obj)) : Prop :=
  ∀ C : Prop, (∀ μ' σ' s' (c : Nat) t, v = .int (c : Int) t → nw = I :: ledW α ο δ μ' σ' s' → Off [I] (ledW α ο δ μ' σ' s') → Good w α ω ο δ μ' σ' s' → InvF k s'.freed s' → s'.live.length ≤ many →
    ((s'.cycles = g ∧ c + meas s' ≤ many + 4 ∧ n = meas s') ∨ (s'.cycles = g + 1 ∧ n = 0)) → C) → C
theorem cycle_right_spec (Fn : Fns w α ω) {k : Nat} (G : Good w α ω ο δ μ σ st) (hI : InvF k st.freed st) :
    Runs w 421 [.ref (α .world)] 420 4200 (ledW α ο δ μ σ st) (PostW w α ω ο δ fun v μ' st' => v = .bool true ∧ InvF k st'.freed st') := by
  have hsm := hI.wf.small
  have hll := hI.llen
  (k_extra "m_enter")
  k_steps
  unfold Hold
  (try k_fold)
  (with_reducible rename Fr _ _ _ _ => lF)
  refine For_invVF lF rfl rfl ?_
  k_steps
  unfold Hold
  (try k_fold)
  (with_reducible rename Fr _ _ _ _ => F1)
  (with_reducible rename News _ _ _ _ => N1)
  (try dsimp only)
  replace N1 := News.sub N1 sub_one
  refine range_W2 (n := 2) (S "goal") (S "steps") (fun _ nw => ∀ C : Prop, (∀ μ' σ' s', nw = ledW α ο δ μ' σ' s' → Good w α ω ο δ μ' σ' s' → InvF k s'.freed s' → s'.live.length ≤ st.live.length → C) → C) rfl F1 N1 (by omega) (fun C c => c _ _ _ rfl G hI (Nat.le_refl _)) ?_ ?_
  · clear F1 N1
    intro i t u1 u2 u3 news₁ I io h4 tk4 hi hJ0 hoff F4 N4
    (try dsimp only)
    (try k_fold)
    refine hJ0 _ ?_
    clear hJ0
    rintro μ4 σ4 s4 rfl G4 hI4 hl4
    have offI : Off [(I, io)] (ledW α ο δ μ4 σ4 s4) := Off.cons (p := (I, io)) hoff off_nil
    (try dsimp only)
    k_steps
    unfold Hold
    (try k_fold)
    (with_reducible rename Fr _ _ _ _ => F1)
    (with_reducible rename News _ _ _ _ => N1)
    (try dsimp only)
    replace N1 := News.sub N1 sub_one
    refine while_W1 (S "steps") (CycJ w α ω ο δ k st.live.length s4.cycles (I, io)) F1 N1 rfl (fun C c => c _ _ _ 0 _ rfl rfl offI G4 hI4 hl4 (.inl ⟨rfl, by have := hI4.meas_le; omega, rfl⟩)) ?_
    clear F1 N1
    intro n v news₁ h5 tk5 F5 N5 hJ0
    (try dsimp only)
    (try k_fold)
    refine hJ0 _ ?_
    clear hJ0
    rintro μ5 σ5 s5 c tv rfl rfl off5 G5 hI5 hl5 hpos
    (try dsimp only)
    rcases hpos with ⟨hc5, hm5, rfl⟩ | ⟨hc5, rfl⟩
    · have hd : decide (s5.cycles < s4.cycles + 1) = true := by simp; omega
      have hfd : (0 : Int) ≤ (st.live.length : Int).fdiv 16 := by rw [Int.fdiv_eq_ediv_of_nonneg _ (by omega)]; exact Int.ediv_nonneg (by omega) (by omega)
      have hmp := meas_pos s5
      have hdd : decide ((st.live.length : Int) + (st.live.length : Int).fdiv 16 + 4 < (c : Int) + 1) = false := by simp only [decide_eq_false_iff_not]; omega
      k_steps
      unfold Hold
      (try k_fold)
      ((refine' Runs.callT (stepped_spec Fn G5 hI5) ?offq59 ?Bq59 ?Fq59 ?Xq59 ?Nq59 ?Tq59 ?hAq59 ?hfq59 ?hkq59 ?hhq59 ?hdq59 ?huq59 ?_; (case offq59 => assumption); (case Bq59 => k_asm); (case Fq59 => k_asm); (case Xq59 => k_asm); (case Nq59 => (k_extra "m_news")); (case Tq59 => k_asm); (case hAq59 => exact rfl); (case hfq59 => exact rfl); (case hkq59 => exact rfl); (case hhq59 => exact rfl); (case hdq59 => (k_extra "m_room")); (case huq59 => (k_extra "m_units")); k_whole; (try dsimp only)))
      refine kE6 ?_
      intro μ6 σ6 h6 tk6 F6 N6 off6 G6
      (try dsimp only)
      (try k_fold)
      (try dsimp only [List.cons_append, List.nil_append] at N6)
      have hI6 := hI5.stepped
      have hl6 : (stepped s5).live.length ≤ st.live.length := Nat.le_trans hI5.llen_step hl5
      have hms := hI5.meas_step
      have hcy : (stepped s5).cycles = (single s5).cycles := rfl
      have hme : meas (stepped s5) = meas (single s5) := rfl
      k_steps
      (with_reducible rename Fr _ _ _ _ => F7)
      rw [if_ii] at F7
      rcases hms with ⟨_, h8⟩ | ⟨_, h8, h9⟩
      · exact ⟨h6, tk6, _, _, 0, rfl, F7, N6, meas_pos s5, _, rfl, fun C k9 => k9 μ6 σ6 (stepped s5) (c + 1) _ rfl rfl off6 G6 hI6 hl6 (.inr ⟨by rw [hcy, h8, hc5], rfl⟩)⟩
      · exact ⟨h6, tk6, _, _, meas (stepped s5), rfl, F7, N6, by rw [hme]; omega, _, rfl, fun C k9 => k9 μ6 σ6 (stepped s5) (c + 1) _ rfl rfl off6 G6 hI6 hl6 (.inl ⟨by rw [hcy, h8, hc5], by rw [hme]; omega, rfl⟩)⟩
    · have hd : decide (s5.cycles < s4.cycles + 1) = false := by simp; omega
      k_steps
      (with_reducible rename Fr _ _ _ _ => F7)
      exact ⟨h5, _, _, ledW α ο δ μ5 σ5 s5, rfl, F7, N5, fun p hp e => off5 _ (.head _) (e ▸ List.mem_map.mpr ⟨p, hp, rfl⟩), ⟨_, _, _, coll_sg (by decide)⟩, fun C c => c μ5 σ5 s5 rfl G5 hI5 hl5⟩
  · intro u1 u2 u3 news₁ h4 tk4 hJ0 F4 N4
    (try dsimp only)
    (try k_fold)
    refine hJ0 _ ?_
    clear hJ0
    rintro μ4 σ4 s4 rfl G4 hI4 hl4
    (try dsimp only)
    k_steps
    (k_extra "m_done")
    exact ⟨rfl, hI4⟩
end

section
open PySem PySem.W PySem.Calls PyProof.Rows PyProof.Rows.LCg PyProof.Rows.LCt
variable {w : World} {α : Role → Addr} {ω : Role → Obj} {ο δ : Nat → Addr} {μ : Role → Addr} {σ : Role → Obj} {st : St}
theorem empty_isDict : (dictOf [] 0).IsDictOf (sK w) [] := kp_isDict (prog := PP) (w := w) (ex := []) 0 0 List.nodup_nil
section
theorem said_45 : True := by
  k_with "setAttr ref" => ((fail_if_success k_extra "m_off10"); (k_here; k_dflt (refine' setA ?zqF ?zqX ?zqN ?zqk1 ?zqu1 ?zqa1 ?zqi1 ?zqi2 ?zqi3 ?zqi4 ?zqb1 ?_; (k_extra "m_sc"))))
  trivial
theorem obj_init_spec {x dx : Addr} {a b : Int} {ta tb : Tok} (hx : dx < x) :
    Runs w 364 [.ref x, .int a ta, .int b tb] 20 200 [(x, instObj 367 dx), (dx, dictOf [] 0)] (fun v news' => v = .none ∧ ∃ od' τ, news' = [(x, instObj 367 dx), (dx, od')] ∧ od'.IsDictOf (sK w) [(S "number", .int a ta), (S "mark", .int 0 τ), (S "size", .int b tb)]) := by
  have hne : @Ne Nat dx x := Nat.ne_of_lt hx
  have hne2 : @Ne Nat x dx := Nat.ne_of_gt hx
  have hd0 := empty_isDict (w := w)
  (k_extra "m_enter")
  k_steps
  (try dsimp only)
  rename Obj.IsDictOf _ _ (stored (stored _ _ _) _ _) => hd9
  exact Done.intro (by k_asm) (by k_asm) ⟨rfl, _, _, rfl, hd9⟩
end
end

section
open PySem PySem.W PySem.Calls PyProof.Rows
theorem said_46 : True := by
  k_with "m_off10" => (skip)
  trivial
/-- an object is made -/
theorem Runs.make {w : World} {fI C : Addr} {rest : List Value} {D U : Nat} {P : Obj → Prop}
    (H : ∀ x dx, dx < x → Runs w fI (.ref x :: rest) D U [(x, instObj C dx), (dx, dictOf [] 0)] (fun v news' => v = .none ∧ ∃ od', news' = [(x, instObj C dx), (dx, od')] ∧ P od'))
    {p : Program} {loose : List Str} {mean : ExcName → Option Value} {mg mb : Str → Option Value} {A : Around} {env : Env} {outer : List Env} {A₀ : Around} {base h₀ : Heap} {L : Addr} {m : Str → Option Value} {s : Shared} {Q E : Value → Shared → Prop} {news : List (Addr × Obj)}
    (B : Below A₀ base outer h₀) (F : Fr h₀ L s.heap m) (X : (hd0.heap_1 w.params).In h₀) (N : News h₀ L s.heap news) (T : Top p loose mean mg mb h₀)
    (hm : makesIn (hd0.heap_1 w.params) C = true) (hi : findIn (hd0.heap_1 w.params) (.ref C) "__init__" = some (some (.ref fI))) (hfn : isFn (hd0.heap_1 w.params) (.ref fI) = true)
    (hA : A.frames = some (env :: outer)) (hf : env.frame = some L) (hk : env.scope.kind = .function) (hh : A.handled = none) (hd : A.depth + D + 2 < recursionLimit) (hu : A.units + U + 8 < cLine)
    (k : ∀ x dx od' h' tk', Fr h₀ L h' m → News h₀ L h' ((x, instObj C dx) :: (dx, od') :: news) → (∀ p ∈ news, p.1 < dx) → dx < x → P od' → Q (.ref x) { s with heap := h', toks := tk' }) :
    wpAny (model PP w) A (PySem.call (.ref C) rest) Q E s := by
  refine call_cls F X N hm hi hfn fun x dx h' F' N' l1 l2 => ?_
  have off : Off news [(x, instObj C dx), (dx, dictOf [] 0)] := fun p hp hq => by
    have h1 := l1 p hp
    obtain ⟨q, hq, e⟩ := List.mem_map.mp hq
    rcases List.mem_cons.mp hq with rfl | hq
    · rw [← e] at h1; exact Nat.lt_irrefl _ (Nat.lt_trans h1 l2)
    · rw [List.mem_singleton.mp hq] at e; rw [← e] at h1; exact Nat.lt_irrefl _ h1
  have Nn : News h₀ L h' news := fun p hp => N' p (.tail _ (.tail _ hp))
  have Nt : News h₀ L h' [(x, instObj C dx), (dx, dictOf [] 0)] := fun p hp => N' p (by
    rcases List.mem_cons.mp hp with rfl | hp
    · exact .head _
    · rw [List.mem_singleton.mp hp]; exact .tail _ (.head _))
  refine H x dx l2 p loose mean mg mb _ env outer A₀ base h₀ L m { s with heap := h' } _ B F' X Nt T hA hf hk hh ?_ ?_ ?_
  · simp only [depth_under_make]; (first | lia | omega)
  · rw [units_under_make]; (first | lia | omega)
  · rintro r news' h'' tk' F'' N'' kp ⟨rfl, od', rfl, hP⟩
    refine ⟨rfl, ?_⟩
    obtain ⟨a, _⟩ := News.after Nn off kp N''
    refine k x dx od' h'' tk' F'' (fun p hp => a p ?_) l1 l2 hP
    rcases List.mem_cons.mp hp with rfl | hp
    · exact List.mem_append_right _ (.head _)
    rcases List.mem_cons.mp hp with rfl | hp
    · exact List.mem_append_right _ (.tail _ (.head _))
    · exact List.mem_append_left _ hp
noncomputable def updN (f : Nat → Addr) (i : Nat) (a : Addr) : Nat → Addr := fun j => if j = i then a else f j
theorem updN_self (f : Nat → Addr) (i : Nat) (a : Addr) : updN f i a i = a := if_pos rfl
theorem updN_ne (f : Nat → Addr) {i j : Nat} (a : Addr) (h : j ≠ i) : updN f i a j = f j := if_neg h
theorem numKV_congr {f g : Nat → Addr} {l : List Nat} (h : ∀ i ∈ l, f i = g i) : numKV f l = numKV g l := List.map_congr_left fun i hi => by rw [h i hi]
theorem refs_congr {f g : Nat → Addr} {l : List Nat} (h : ∀ i ∈ l, f i = g i) : refs f l = refs g l := List.map_congr_left fun i hi => by rw [h i hi]
theorem led_congr {β β' : Role → Addr} {σ : Role → Obj} {n : Nat} (h : ∀ r, Role.ok n r → β' r = β r) : led β' σ n = led β σ n := List.map_congr_left fun r hr => by rw [h r (mem_roles.mp hr)]
theorem sortKV_congr {f g : Nat → Int} {l : List Nat} {kvs : List (Int × Value)} (h : SortKV f l kvs) (e : ∀ i ∈ l, g i = f i) : SortKV g l kvs := by
  induction h with
  | nil => exact .nil
  | cons i t _ ih =>
    rw [← e i (.head _)]
    exact .cons i t (ih fun j hj => e j (.tail _ hj))
theorem stored_new {kvs : List (Int × Value)} {l : List Nat} {i : Nat} {v : Value} (hk : kvs.map (·.1) = l.map (fun (i : Nat) => (i : Int))) (hi : i ∉ l) : stored kvs (i : Int) v = kvs ++ [((i : Int), v)] := by
  unfold stored
  rw [if_neg]
  rw [List.any_eq_true]
  rintro ⟨y, hy, he⟩
  have he := of_decide_eq_true he
  have h1 : y.1 ∈ l.map (fun (i : Nat) => (i : Int)) := hk ▸ List.mem_map.mpr ⟨y, hy, rfl⟩
  obtain ⟨j, hj, e⟩ := List.mem_map.mp h1
  have : j = i := by (first | lia | omega)
  exact hi (this ▸ hj)
section
variable {w : World} {A : Around} {E : Value → Shared → Prop} {s : Shared} {L : Addr} {h₀ h : Heap} {m : Str → Option Value} {news tmp : List (Addr × Obj)}
  {α : Role → Addr} {ω : Role → Obj} {ο δ : Nat → Addr} {μ : Role → Addr} {σ : Role → Obj} {st : St}
theorem Good.congr {ο' δ' : Nat → Addr} {μ' : Role → Addr} {σ' : Role → Obj} {st' : St} (G : Good w α ω ο δ μ σ st) (hn : st'.n = st.n) (ha : ∀ r, Role.ok st.n r → adr α ο' δ' μ' r = adr α ο δ μ r) (hs : ∀ r, Role.ok st.n r → Shape w α ω ο' δ' μ' st' r (σ' r)) : Good w α ω ο' δ' μ' σ' st' where
  inj := fun r r' hr hr' e => by
    rw [hn] at hr hr'
    rw [ha r hr, ha r' hr'] at e
    exact G.inj r r' hr hr' e
  lo := fun r hr => by rw [hn] at hr; rw [ha r hr]; exact G.lo r hr
  sh := fun r hr => by rw [hn] at hr; exact hs r hr
/-- «world['sorts'][number] = ..» -/
theorem set_sorts_new {v k : Int} {u t : Tok} {Q : Unit → Shared → Prop} (F : Fr h₀ L s.heap m) (N : News h₀ L s.heap (tmp ++ ledW α ο δ μ σ st)) (off : Off tmp (ledW α ο δ μ σ st)) (G : Good w α ω ο δ μ σ st) (hk : k = ((st.n + 1 : Nat) : Int)) (hps : st.ps = 0) (hn : st.n ≤ 1000)
    (h : ∀ h' σ', Fr h₀ L h' m → News h₀ L h' (tmp ++ ledW α ο δ μ σ' ((st.setSort (st.n + 1) v).setPs 1)) → Off tmp (ledW α ο δ μ σ' ((st.setSort (st.n + 1) v).setPs 1)) → Good w α ω ο δ μ σ' ((st.setSort (st.n + 1) v).setPs 1) → Q () { s with heap := h', toks := s.toks + 1 }) :
    wpAny (model PP w) A (setItem (.ref (α .sorts)) (.int k u) (.int v t)) Q E s := by
  subst hk
  obtain ⟨kvs, hd, hkv⟩ := G.sh .sorts trivial
  rw [hps, Nat.add_zero] at hkv
  have hkeys := sortKV_keys hkv
  have hlen := sortKV_len hkv
  rw [upTo_len] at hlen
  refine kda_set (knd := iK w) F N (updF_tmp (off.ne (r := .sorts) trivial) (led_updF G.inj (r := .sorts) trivial)) hd (intKind_is _ _ _ _) (by rw [hlen, sizeLine_eq]; (first | lia | omega)) fun h' o' F' N' hd' => h h' _ F' N' off.upd (G.set rfl ?_ ?_)
  · have hni : st.n + 1 ∉ upTo st.n := fun e => by have := (mem_upTo.mp e).2; (first | lia | omega)
    rw [stored_new hkeys hni] at hd'
    refine ⟨_, hd', ?_⟩
    show SortKV (fun j => if j = st.n + 1 then v else st.sort j) (upTo (st.n + 1)) _
    rw [upTo_succ]
    have e := sortKV_app (f := fun j => if j = st.n + 1 then v else st.sort j) (sortKV_congr hkv fun i hi => if_neg (fun (e : i = st.n + 1) => hni (e ▸ hi))) (st.n + 1) t
    simp only [if_true] at e
    exact e
  · intro r' o hne hS; cases r' <;> first | exact hS | exact absurd rfl hne
theorem adr_newEdge {l : Addr} {n : Nat} : ∀ r, Role.ok n r → adr α ο δ (upd μ (.edge (n + 1)) l) r = adr α ο δ μ r := fun r hr => by
  rw [adr_edge, upd_ne]
  intro e; subst e
  have := hr.2; (first | lia | omega)
theorem adr_newObj {x d : Addr} {n : Nat} : ∀ r, Role.ok n r → adr α (updN ο (n + 1) x) (updN δ (n + 1) d) μ r = adr α ο δ μ r := fun r hr => by
  cases r <;> first | rfl | skip
  · exact updN_ne ο x (by have := hr.2; (first | lia | omega))
  · exact updN_ne δ d (by have := hr.2; (first | lia | omega))
/-- «world['edges'][number] = []» -/
theorem set_edges_new {l : Addr} {o : Obj} {k : Int} {u : Tok} {Q : Unit → Shared → Prop} (F : Fr h₀ L s.heap m) (N : News h₀ L s.heap (tmp ++ ledW α ο δ μ σ st)) (off : Off tmp (ledW α ο δ μ σ st)) (G : Good w α ω ο δ μ σ st) (_hl : (l, o) ∈ tmp) (hk : k = ((st.n + 1 : Nat) : Int)) (hpe : st.pe = 0) (hn : st.n ≤ 1000)
    (h : ∀ h' σ', Fr h₀ L h' m → News h₀ L h' (tmp ++ ledW α ο δ (upd μ (.edge (st.n + 1)) l) σ' (st.setPe 1)) → Off tmp (ledW α ο δ (upd μ (.edge (st.n + 1)) l) σ' (st.setPe 1)) → Good w α ω ο δ (upd μ (.edge (st.n + 1)) l) σ' (st.setPe 1) → Q () { s with heap := h', toks := s.toks + 1 }) :
    wpAny (model PP w) A (setItem (.ref (α .edges)) (.int k u) (.ref l)) Q E s := by
  subst hk
  have hd := G.sh .edges trivial
  have hd : (σ .edges).IsDictOf (iK w) (numKV (fun i => μ (.edge i)) (upTo (st.n + st.pe))) := hd
  rw [hpe, Nat.add_zero] at hd
  have hni : st.n + 1 ∉ upTo st.n := fun e => by have := (mem_upTo.mp e).2; (first | lia | omega)
  refine kda_set (knd := iK w) F N (updF_tmp (off.ne (r := .edges) trivial) (led_updF G.inj (r := .edges) trivial)) hd (intKind_is _ _ _ _) (by rw [numKV_len, upTo_len, sizeLine_eq]; (first | lia | omega)) fun h' o' F' N' hd' => ?_
  have el : led (adr α ο δ (upd μ (.edge (st.n + 1)) l)) (upd σ .edges o') st.n = led (adr α ο δ μ) (upd σ .edges o') st.n := led_congr adr_newEdge
  refine h h' (upd σ .edges o') F' ?_ ?_ (G.congr (σ' := upd σ .edges o') rfl adr_newEdge fun r hr => ?_)
  · show News h₀ L h' (tmp ++ led (adr α ο δ (upd μ (.edge (st.n + 1)) l)) (upd σ .edges o') st.n)
    rw [el]; exact N'
  · show Off tmp (led (adr α ο δ (upd μ (.edge (st.n + 1)) l)) (upd σ .edges o') st.n)
    rw [el]; exact off.upd
  · have hS := G.sh r hr
    by_cases e : r = .edges
    · subst e
      rw [upd_self]
      have e1 : numKV (fun i => μ (.edge i)) (upTo st.n) = numKV (fun i => upd μ (.edge (st.n + 1)) l (.edge i)) (upTo st.n) := numKV_congr fun i hi => by
        rw [upd_ne]
        intro q; have := Role.edge.inj q; exact hni (this ▸ hi)
      have e2 : Value.ref l = Value.ref ((fun i => upd μ (.edge (st.n + 1)) l (.edge i)) (st.n + 1)) := by dsimp only; rw [upd_self]
      rw [e1, e2, numKV_stored_new _ _ _ hni, ← upTo_succ] at hd'
      exact hd'
    · rw [upd_ne _ _ e]
      cases r <;> first | exact hS | exact absurd rfl e
/-- «self.objects[number] = obj» -/
theorem set_objs_new {x d : Addr} {k : Int} {u : Tok} {Q : Unit → Shared → Prop} (F : Fr h₀ L s.heap m) (N : News h₀ L s.heap (tmp ++ ledW α ο δ μ σ st)) (off : Off tmp (ledW α ο δ μ σ st)) (G : Good w α ω ο δ μ σ st) (hk : k = ((st.n + 1 : Nat) : Int)) (hl : ∀ i ∈ st.live, i ≤ st.n) (hg : ∀ i ∈ st.grey, i ≤ st.n) (ha : ∀ i ∈ st.again, i ≤ st.n) (hr : ∀ i ∈ st.roots, i ≤ st.n) (hz : st.live.length ≤ 1000)
    (h : ∀ h' σ', Fr h₀ L h' m → News h₀ L h' (tmp ++ ledW α (updN ο (st.n + 1) x) (updN δ (st.n + 1) d) μ σ' (st.setLive (st.live ++ [st.n + 1]))) → Off tmp (ledW α (updN ο (st.n + 1) x) (updN δ (st.n + 1) d) μ σ' (st.setLive (st.live ++ [st.n + 1]))) → Good w α ω (updN ο (st.n + 1) x) (updN δ (st.n + 1) d) μ σ' (st.setLive (st.live ++ [st.n + 1])) → Q () { s with heap := h', toks := s.toks + 1 }) :
    wpAny (model PP w) A (setItem (.ref (α .objs)) (.int k u) (.ref x)) Q E s := by
  subst hk
  have hd : (σ .objs).IsDictOf (iK w) (numKV ο st.live) := G.sh .objs trivial
  have hni : st.n + 1 ∉ st.live := fun e => by have := hl _ e; (first | lia | omega)
  have hup : ∀ l : List Nat, (∀ i ∈ l, i ≤ st.n) → ∀ i ∈ l, ο i = updN ο (st.n + 1) x i := fun l hl i hi => (updN_ne ο x (by have := hl i hi; (first | lia | omega))).symm
  refine kda_set (knd := iK w) F N (updF_tmp (off.ne (r := .objs) trivial) (led_updF G.inj (r := .objs) trivial)) hd (intKind_is _ _ _ _) (by rw [numKV_len, sizeLine_eq]; (first | lia | omega)) fun h' o' F' N' hd' => ?_
  have el : led (adr α (updN ο (st.n + 1) x) (updN δ (st.n + 1) d) μ) (upd σ .objs o') st.n = led (adr α ο δ μ) (upd σ .objs o') st.n := led_congr adr_newObj
  refine h h' (upd σ .objs o') F' ?_ ?_ (G.congr (σ' := upd σ .objs o') rfl adr_newObj fun r hr' => ?_)
  · show News h₀ L h' (tmp ++ led (adr α (updN ο (st.n + 1) x) (updN δ (st.n + 1) d) μ) (upd σ .objs o') st.n)
    rw [el]; exact N'
  · show Off tmp (led (adr α (updN ο (st.n + 1) x) (updN δ (st.n + 1) d) μ) (upd σ .objs o') st.n)
    rw [el]; exact off.upd
  · have hS := G.sh r hr'
    by_cases e : r = .objs
    · subst e
      rw [upd_self]
      have e2 : Value.ref x = Value.ref (updN ο (st.n + 1) x (st.n + 1)) := by rw [updN_self]
      rw [numKV_congr (hup _ hl), e2, numKV_stored_new _ _ _ hni] at hd'
      exact hd'
    · rw [upd_ne _ _ e]
      cases r <;> first | exact hS | exact absurd rfl e | skip
      · show (σ .all).IsDictOf (iK w) (numKV (updN ο (st.n + 1) x) (upTo st.n))
        rw [← numKV_congr (hup _ fun i hi => (mem_upTo.mp hi).2)]; exact hS
      · show IsLO (σ .grey) (refs (updN ο (st.n + 1) x) st.grey)
        rw [← refs_congr (hup _ hg)]; exact hS
      · show IsLO (σ .again) (refs (updN ο (st.n + 1) x) st.again)
        rw [← refs_congr (hup _ ha)]; exact hS
      · show σ .roots = ω .roots ∧ IsLO (σ .roots) (refs (updN ο (st.n + 1) x) st.roots)
        rw [← refs_congr (hup _ hr)]; exact hS
      · rename_i i
        show σ (.obj i) = instObj 367 (updN δ (st.n + 1) d i)
        rw [updN_ne δ d (by have := hr'.2; (first | lia | omega))]; exact hS
theorem ok_succ {n : Nat} {r : Role} (h : r.ok (n + 1)) : r.ok n ∨ r = .obj (n + 1) ∨ r = .objD (n + 1) ∨ r = .edge (n + 1) := by
  cases r <;> first | exact .inl trivial | skip
  all_goals
    rename_i i
    have h1 : 1 ≤ i ∧ i ≤ n + 1 := h
    by_cases e : i = n + 1
    · subst e; simp
    · exact .inl ⟨h1.1, by (first | lia | omega)⟩
/-- «world['all'][number] = obj»: the three new ones are roles now -/
theorem set_all_new {od eo : Obj} {k : Int} {u : Tok} {τ : Nat → Tok} {Q : Unit → Shared → Prop} (F : Fr h₀ L s.heap m)
    (N : News h₀ L s.heap (((ο (st.n + 1), instObj 367 (δ (st.n + 1))) :: (δ (st.n + 1), od) :: (μ (.edge (st.n + 1)), eo) :: tmp) ++ ledW α ο δ μ σ st))
    (off : Off ((ο (st.n + 1), instObj 367 (δ (st.n + 1))) :: (δ (st.n + 1), od) :: (μ (.edge (st.n + 1)), eo) :: tmp) (ledW α ο δ μ σ st)) (G : Good w α ω ο δ μ σ st) (hk : k = ((st.n + 1 : Nat) : Int)) (hps : st.ps = 1) (hpe : st.pe = 1) (hn : st.n ≤ 1000)
    (hod : od.IsDictOf (sK w) (objKV st (st.n + 1) τ)) (heo : ∃ vs, IsLO eo vs ∧ Nums vs (st.edges (st.n + 1)))
    (d1 : @Ne Nat (ο (st.n + 1)) (δ (st.n + 1))) (d2 : @Ne Nat (ο (st.n + 1)) (μ (.edge (st.n + 1)))) (d3 : @Ne Nat (δ (st.n + 1)) (μ (.edge (st.n + 1))))
    (dt : ∀ p ∈ tmp, p.1 ≠ ο (st.n + 1) ∧ p.1 ≠ δ (st.n + 1) ∧ p.1 ≠ μ (.edge (st.n + 1))) (l1 : 1 < ο (st.n + 1)) (l2 : 1 < δ (st.n + 1)) (l3 : 1 < μ (.edge (st.n + 1)))
    (h : ∀ h' σ', Fr h₀ L h' m → News h₀ L h' (tmp ++ ledW α ο δ μ σ' st.grow) → Off tmp (ledW α ο δ μ σ' st.grow) → Good w α ω ο δ μ σ' st.grow → Q () { s with heap := h', toks := s.toks + 1 }) :
    wpAny (model PP w) A (setItem (.ref (α .all)) (.int k u) (.ref (ο (st.n + 1)))) Q E s := by
  subst hk
  have hd : (σ .all).IsDictOf (iK w) (numKV ο (upTo st.n)) := G.sh .all trivial
  have hni : st.n + 1 ∉ upTo st.n := fun e => by have := (mem_upTo.mp e).2; (first | lia | omega)
  refine kda_set (knd := iK w) F N (updF_tmp (off.ne (r := .all) trivial) (led_updF G.inj (r := .all) trivial)) hd (intKind_is _ _ _ _) (by rw [numKV_len, upTo_len, sizeLine_eq]; (first | lia | omega)) fun h' o' F' N' hd' => ?_
  rw [numKV_stored_new _ _ _ hni, ← upTo_succ] at hd'
  let σ' : Role → Obj := fun r => if r = .obj (st.n + 1) then instObj 367 (δ (st.n + 1)) else if r = .objD (st.n + 1) then od else if r = .edge (st.n + 1) then eo else upd σ .all o' r
  have hσ : ∀ r, Role.ok st.n r → σ' r = upd σ .all o' r := fun r hr => by
    have e1 : r ≠ .obj (st.n + 1) := by rintro rfl; have := hr.2; (first | lia | omega)
    have e2 : r ≠ .objD (st.n + 1) := by rintro rfl; have := hr.2; (first | lia | omega)
    have e3 : r ≠ .edge (st.n + 1) := by rintro rfl; have := hr.2; (first | lia | omega)
    show (if r = _ then _ else _) = _
    rw [if_neg e1, if_neg e2, if_neg e3]
  have s1 : σ' (.obj (st.n + 1)) = instObj 367 (δ (st.n + 1)) := if_pos rfl
  have s2 : σ' (.objD (st.n + 1)) = od := by show (if _ then _ else _) = _; rw [if_neg (by intro e; cases e), if_pos rfl]
  have s3 : σ' (.edge (st.n + 1)) = eo := by show (if _ then _ else _) = _; rw [if_neg (by intro e; cases e), if_neg (by intro e; cases e), if_pos rfl]
  have offr : ∀ r, Role.ok st.n r → adr α ο δ μ r ≠ ο (st.n + 1) ∧ adr α ο δ μ r ≠ δ (st.n + 1) ∧ adr α ο δ μ r ≠ μ (.edge (st.n + 1)) := fun r hr =>
    ⟨fun e => off.ne hr _ (.head _) e.symm, fun e => off.ne hr _ (.tail _ (.head _)) e.symm, fun e => off.ne hr _ (.tail _ (.tail _ (.head _))) e.symm⟩
  refine h h' σ' F' (News.sub N' fun p hp => ?_) (fun p hp hq => ?_) ⟨?_, ?_, ?_⟩
  · rcases List.mem_append.mp hp with hp | hp
    · exact .tail _ (.tail _ (.tail _ (List.mem_append_left _ hp)))
    · obtain ⟨r, hr, rfl⟩ := of_led hp
      rcases ok_succ (n := st.n) hr with hr | rfl | rfl | rfl
      · rw [hσ r hr]
        exact .tail _ (.tail _ (.tail _ (List.mem_append_right _ (mem_led hr))))
      · rw [s1]; exact .head _
      · rw [s2]; exact .tail _ (.head _)
      · rw [s3]; exact .tail _ (.tail _ (.head _))
  · obtain ⟨q, hq, e⟩ := List.mem_map.mp hq
    obtain ⟨r, hr, rfl⟩ := of_led hq
    dsimp only at e
    rcases ok_succ (n := st.n) hr with hr | rfl | rfl | rfl
    · exact off.ne hr p (.tail _ (.tail _ (.tail _ hp))) e.symm
    · exact (dt p hp).1 e.symm
    · exact (dt p hp).2.1 e.symm
    · exact (dt p hp).2.2 e.symm
  · intro r r' hr hr' e
    rcases ok_succ (n := st.n) hr with hr | rfl | rfl | rfl <;> rcases ok_succ (n := st.n) hr' with hr' | rfl | rfl | rfl
    all_goals first | rfl | exact G.inj r r' hr hr' e | exact absurd e (offr r hr).1 | exact absurd e (offr r hr).2.1 | exact absurd e (offr r hr).2.2 | exact absurd e.symm (offr r' hr').1 | exact absurd e.symm (offr r' hr').2.1 | exact absurd e.symm (offr r' hr').2.2 | exact absurd e d1 | exact absurd e d2 | exact absurd e d3 | exact absurd e.symm d1 | exact absurd e.symm d2 | exact absurd e.symm d3
  · intro r hr
    rcases ok_succ (n := st.n) hr with hr | rfl | rfl | rfl
    · exact G.lo r hr
    · exact l1
    · exact l2
    · exact l3
  · intro r hr
    rcases ok_succ (n := st.n) hr with hr | rfl | rfl | rfl
    · rw [hσ r hr]
      have hS := G.sh r hr
      by_cases e : r = .all
      · subst e; rw [upd_self]; exact hd'
      · rw [upd_ne _ _ e]
        cases r <;> first | exact hS | exact absurd rfl e | skip
        · show (σ .edges).IsDictOf (iK w) (numKV (fun i => μ (.edge i)) (upTo (st.n + 1)))
          have hS : (σ .edges).IsDictOf (iK w) (numKV (fun i => μ (.edge i)) (upTo (st.n + st.pe))) := hS
          rw [hpe] at hS; exact hS
        · have hS : ∃ kvs, (σ .sorts).IsDictOf (iK w) kvs ∧ SortKV st.sort (upTo (st.n + st.ps)) kvs := hS
          rw [hps] at hS; exact hS
    · rw [s1]; rfl
    · rw [s2]; exact ⟨τ, hod⟩
    · rw [s3]; exact heo
end
end

section
open PySem PySem.W PySem.Calls PyProof.Rows PyProof.Rows.LCg PyProof.Rows.LCt
variable {w : World} {α : Role → Addr} {ω : Role → Obj} {ο δ : Nat → Addr} {μ : Role → Addr} {σ : Role → Obj} {st : St}
/-- «_law_rained» in the world -/
theorem rainW_spec {many : Int} {tm : Tok} (G : Good w α ω ο δ μ σ st) (hm : 0 < many) (hc : st.cells.length ≤ 60) :
    Runs w 378 [.ref (α .gut), .int many tm] 20 200 (ledW α ο δ μ σ st) (PostW w α ω ο δ fun v μ' st' => (∃ r t, v = .int r t ∧ 0 ≤ r ∧ r < many) ∧ μ = μ' ∧ st' = st.setTurn (st.turn + 1)) := by
  obtain ⟨t, kg, eg⟩ := G.sh .gut trivial
  obtain ⟨vs, ⟨kc, ec⟩, hi⟩ := G.sh .cells trivial
  have hgm : (α .gut, PySem.W.listOf #[.ref (α .cells), .int (st.turn : Int) t] kg) ∈ ledW α ο δ μ σ st := by
    have := mem_led (β := adr α ο δ μ) (σ := σ) (n := st.n) (r := .gut) trivial
    rw [eg] at this; exact this
  have hcm : (α .cells, PySem.W.listOf vs.toArray kc) ∈ ledW α ο δ μ σ st := by
    have := mem_led (β := adr α ο δ μ) (σ := σ) (n := st.n) (r := .cells) trivial
    rw [ec] at this; exact this
  have hne : @Ne Nat (α .gut) (α .cells) := fun e => by
    have := G.inj .gut .cells trivial trivial e; cases this
  have H := rained_spec (w := w) (many := many) (tm := tm) (k := kg) (t := t) (turn := st.turn) hne hm hi hc (kc := kc)
  intro p loose mean mg mb A env outer A₀ base h₀ L m s R B F X N T hA hf hke hh hdp hun k
  have N2 : News h₀ L s.heap [(α .gut, PySem.W.listOf #[.ref (α .cells), .int (st.turn : Int) t] kg), (α .cells, PySem.W.listOf vs.toArray kc)] := fun q hq => by
    rcases List.mem_cons.mp hq with rfl | hq
    · exact N _ hgm
    · rw [List.mem_singleton.mp hq]; exact N _ hcm
  refine H p loose mean mg mb A env outer A₀ base h₀ L m s R B F X N2 T hA hf hke hh hdp hun ?_
  intro v news' h' tk' F' N' kp hJ0
  (try dsimp only)
  (try k_fold)
  obtain ⟨r, t1, t2, k', rfl, h0, h1, rfl⟩ := hJ0
  have keep : ∀ r, Role.ok st.n r → r ≠ .gut → r ≠ .cells → h'.get? (adr α ο δ μ r) = some (σ r) := fun r hr e1 e2 => by
    refine kp.1 _ _ (N _ (mem_led hr)).1 fun hq => ?_
    obtain ⟨q, hq, e⟩ := List.mem_map.mp hq
    rcases List.mem_cons.mp hq with rfl | hq
    · exact e1 (G.inj r .gut hr trivial e.symm)
    · rw [List.mem_singleton.mp hq] at e
      exact e2 (G.inj r .cells hr trivial e.symm)
  have N3 : News h₀ L h' (ledW α ο δ μ (upd σ .gut (PySem.W.listOf #[.ref (α .cells), .int ((st.turn + 1 : Nat) : Int) t2] k')) (st.setTurn (st.turn + 1))) := fun q hq => by
    obtain ⟨r, hr, rfl⟩ := of_led hq
    have hr' : Role.ok st.n r := hr
    have z := (N _ (mem_led hr')).2
    by_cases e1 : r = .gut
    · subst e1
      rw [upd_self]
      exact ⟨(N' _ (.head _)).1, z⟩
    · rw [upd_ne _ _ e1]
      by_cases e2 : r = .cells
      · subst e2
        refine ⟨?_, z⟩
        have := (N' _ (.tail _ (.head _))).1
        rw [ec]; exact this
      · exact ⟨keep r hr' e1 e2, z⟩
  refine k _ _ h' tk' F' N3 ⟨fun b o e hb => kp.1 b o e fun hq => hb ?_, fun q hq => ?_⟩ ⟨μ, _, st.setTurn (st.turn + 1), rfl, G.set (r := .gut) rfl ⟨t2, k', rfl⟩ ?_, ⟨r, t1, rfl, h0, h1⟩, rfl, rfl⟩
  · obtain ⟨q, hq, e⟩ := List.mem_map.mp hq
    rcases List.mem_cons.mp hq with rfl | hq
    · exact List.mem_map.mpr ⟨_, hgm, e⟩
    · rw [List.mem_singleton.mp hq] at e
      exact List.mem_map.mpr ⟨_, hcm, e⟩
  · obtain ⟨r, hr, rfl⟩ := of_led hq
    exact .inl (List.mem_map.mpr ⟨_, mem_led (σ := σ) hr, rfl⟩)
  · intro r' o hne hS
    cases r' <;> first | exact hS | exact absurd rfl hne
end

section
open PySem PySem.W PySem.Calls PyProof.Rows PyProof.Rows.LCg PyProof.Rows.LCt
variable {w : World} {α : Role → Addr} {ω : Role → Obj} {ο δ : Nat → Addr} {μ : Role → Addr} {σ : Role → Obj} {st : St}
section
theorem said_47 : True := by
  k_with "setAttr ref" => ((fail_if_success k_extra "m_off11"); (k_here; (fail_if_success (with_reducible show wpAny _ _ (setAttr (Value.ref ((_ : Role → Addr) Role.cyc)) _ _) _ _ _)); k_dflt (refine' setA ?zqF ?zqX ?zqN ?zqk1 ?zqU1 ?zqa1 ?zqi1 ?zqi2 ?zqi3 ?zqi4 ?zqb1 ?_; (k_extra "m_sc"))))
  k_with "setItem ref" => ((fail_if_success k_extra "m_off11"); ((refine Hold.mk ?_)))
  trivial
/-- «take_in» -/
theorem take_in_spec {x dx : Addr} {od : Obj} {kN z : Int} {tN tz : Tok} {a b c : Value} (G : Good w α ω ο δ μ σ st) (hk : kN = ((st.n + 1 : Nat) : Int)) (hod : od.IsDictOf (sK w) [(S "number", a), (S "mark", b), (S "size", c)]) (hx : dx < x)
    (off : ∀ o, Off [(x, instObj 367 dx), (dx, o)] (ledW α ο δ μ σ st)) (hl : ∀ i ∈ st.live, i ≤ st.n) (hg : ∀ i ∈ st.grey, i ≤ st.n) (ha : ∀ i ∈ st.again, i ≤ st.n) (hr : ∀ i ∈ st.roots, i ≤ st.n) (hz : st.live.length ≤ 1000) :
    Runs w 189 [.ref (α .cyc), .ref x, .int kN tN, .int z tz] 50 500 ((x, instObj 367 dx) :: (dx, od) :: ledW α ο δ μ σ st)
      (fun v news' => v = .none ∧ ∃ od' σ' ta tb tc, news' = (x, instObj 367 dx) :: (dx, od') :: ledW α (updN ο (st.n + 1) x) (updN δ (st.n + 1) dx) μ σ' ((st.setLive (st.live ++ [st.n + 1])).setTotal (st.total + z)) ∧
        Good w α ω (updN ο (st.n + 1) x) (updN δ (st.n + 1) dx) μ σ' ((st.setLive (st.live ++ [st.n + 1])).setTotal (st.total + z)) ∧ od'.IsDictOf (sK w) [(S "number", .int kN ta), (S "mark", .int st.white tb), (S "size", .int z tc)] ∧
        Off [(x, instObj 367 dx), (dx, od')] (ledW α (updN ο (st.n + 1) x) (updN δ (st.n + 1) dx) μ σ' ((st.setLive (st.live ++ [st.n + 1])).setTotal (st.total + z)))) := by
  have hne : @Ne Nat dx x := Nat.ne_of_lt hx
  have hne2 : @Ne Nat x dx := Nat.ne_of_gt hx
  have hdx : ∀ p ∈ ledW α ο δ μ σ st, p.1 ≠ dx := fun p hp e => off od (dx, od) (.tail _ (.head _)) (e ▸ List.mem_map.mpr ⟨p, hp, rfl⟩)
  (k_extra "m_enter")
  k_steps
  unfold Hold
  (try k_fold)
  (with_reducible rename Fr _ _ _ _ => F7)
  (with_reducible rename News _ _ _ _ => N7)
  (try dsimp only)
  k_dflt (refine set_objs_new (tmp := [_, _]) (d := dx) F7 N7 (off _) G hk hl hg ha hr hz ?_)
  intro h8 σ8 F8 N8 off8 G8
  (try dsimp only [List.cons_append, List.nil_append] at N8)
  (try dsimp only)
  clear hdx
  k_steps
  (try dsimp only)
  rename Obj.IsDictOf _ _ (stored (stored _ _ _) _ _) => hd9
  rename Good _ _ _ _ _ _ _ (St.setTotal _ _) => G9
  rename Off _ (ledW _ _ _ _ _ (St.setTotal _ _)) => off9
  exact Done.intro (by k_asm) (by k_asm) ⟨rfl, _, _, _, _, _, rfl, G9, hd9, off9⟩
end
section
variable {w : World} {α : Role → Addr} {ω : Role → Obj} {ο δ : Nat → Addr} {μ : Role → Addr} {A1 : Heap → Prop} {A2 A3 : Heap → List (Addr × Obj) → Prop} {C : Value → Heap → Tok → Prop}
theorem said_48 : True := by
  k_with "m_off11" => (skip)
  trivial
theorem kE13 {X : St} {v : Value} {p : Addr × Obj} {dx : Addr} {H : Obj → Tok → Tok → Tok → Prop} (k : ∀ od' σ' ta tb tc h' tk', A1 h' → A2 h' (p :: (dx, od') :: ledW α ο δ μ σ' X) → A3 h' (p :: (dx, od') :: ledW α ο δ μ σ' X) → Good w α ω ο δ μ σ' X → H od' ta tb tc → Off [p, (dx, od')] (ledW α ο δ μ σ' X) → C v h' tk') :
    ∀ r nw h' tk', A1 h' → A2 h' nw → A3 h' nw → (r = v ∧ ∃ od' σ' ta tb tc, nw = p :: (dx, od') :: ledW α ο δ μ σ' X ∧ Good w α ω ο δ μ σ' X ∧ H od' ta tb tc ∧ Off [p, (dx, od')] (ledW α ο δ μ σ' X)) → C r h' tk' := by
  rintro r nw h' tk' a b a3 ⟨rfl, od', σ', ta, tb, tc, rfl, G, h, o⟩; exact k od' σ' ta tb tc h' tk' a b a3 G h o
end
end

section
open PySem PySem.W PySem.Calls PyProof.Rows PyProof.Rows.LCg PyProof.Rows.LCt
variable {w : World} {α : Role → Addr} {ω : Role → Obj} {ο δ : Nat → Addr} {μ : Role → Addr} {σ : Role → Obj} {st : St}
theorem said_49 : True := by
  k_with "call ref" => (((with_reducible refine' hold_in [367, 189] ?zqr ?_); (case zqr => decide)))
  trivial
theorem Runs.mono {f : Addr} {args : List Value} {D U : Nat} {news : List (Addr × Obj)} {P P' : Value → List (Addr × Obj) → Prop} (H : Runs w f args D U news P) (h : ∀ v n, P v n → P' v n) : Runs w f args D U news P' := by
  intro p loose mean mg mb A env outer A₀ base h₀ L m s R B F X N T hA hf hke hh hdp hun k
  exact H p loose mean mg mb A env outer A₀ base h₀ L m s R B F X N T hA hf hke hh hdp hun fun r n h' tk' F' N' kp hP => k r n h' tk' F' N' kp (h r n hP)
theorem off_consA {d : Addr} {tmp l : List (Addr × Obj)} (h : AllLt d l) (h' : Off tmp l) : ∀ o, Off ((d, o) :: tmp) l := fun _ => Off.cons (fun q hq => Nat.ne_of_lt (allLt_mem h q hq)) h'
theorem off_up {x dx : Addr} {a b : Obj} {tmp l : List (Addr × Obj)} (h : Off tmp l) (hx : ∀ p ∈ tmp, x < p.1 ∧ dx < p.1) : Off tmp ((x, a) :: (dx, b) :: l) := fun p hp hq => by
  obtain ⟨q, hq, e⟩ := List.mem_map.mp hq
  have := hx p hp
  rcases List.mem_cons.mp hq with rfl | hq
  · exact absurd e (Nat.ne_of_lt this.1)
  rcases List.mem_cons.mp hq with rfl | hq
  · exact absurd e (Nat.ne_of_lt this.2)
  · exact h p hp (List.mem_map.mpr ⟨q, hq, e⟩)
theorem Good.silent3 (G : Good w α ω ο δ μ σ st) {i : Nat} (hi : st.n < i) (k z : Int) : Good w α ω ο δ μ σ (((st.setMark i k).setSize i z).setEdge i []) := by
  refine G.congr rfl (fun _ _ => rfl) fun r hr => ?_
  have hS := G.sh r hr
  cases r <;> first | exact hS | skip
  · rename_i j
    have hj : j ≠ i := by have := hr.2; omega
    obtain ⟨τ, hS⟩ := hS
    refine ⟨τ, ?_⟩
    have e : objKV (((st.setMark i k).setSize i z).setEdge i []) j τ = objKV st j τ := by
      show [(S "number", Value.int (j : Int) (τ 0)), (S "mark", .int (if j = i then k else st.mark j) (τ 1)), (S "size", .int (if j = i then z else st.size j) (τ 2))] = _
      rw [if_neg hj, if_neg hj]; rfl
    rw [e]; exact hS
  · rename_i j
    have hj : j ≠ i := by have := hr.2; omega
    show ∃ vs, IsLO _ vs ∧ Nums vs (if j = i then [] else st.edges j)
    rw [if_neg hj]; exact hS
theorem set_all_new2 {A : Around} {E : Value → Shared → Prop} {s : Shared} {L x dx lE : Addr} {h₀ : Heap} {m : Str → Option Value} {od : Obj} {t : Addr × Obj} {k z : Int} {u ta tb tc : Tok} {Q : Unit → Shared → Prop} (G : Good w α ω ο δ μ σ st) (ex : ο (st.n + 1) = x) (ed : δ (st.n + 1) = dx) (el : μ (.edge (st.n + 1)) = lE) (F : Fr h₀ L s.heap m)
    (N : News h₀ L s.heap ((lE, PySem.W.listOf #[] 0) :: t :: (x, instObj 367 dx) :: (dx, od) :: ledW α ο δ μ σ st))
    (off : Off [(lE, PySem.W.listOf #[] 0), t] ((x, instObj 367 dx) :: (dx, od) :: ledW α ο δ μ σ st))
    (off2 : Off [(x, instObj 367 dx), (dx, od)] (ledW α ο δ μ σ st))
    (hod : od.IsDictOf (sK w) [(S "number", .int ((st.n + 1 : Nat) : Int) ta), (S "mark", .int st.white tb), (S "size", .int z tc)])
    (hk : k = ((st.n + 1 : Nat) : Int)) (hps : st.ps = 1) (hpe : st.pe = 1) (hn : st.n ≤ 1000) (l5 : dx < x) (l9 : x < lE ∧ dx < lE) (l6 : x < t.1 ∧ dx < t.1 ∧ t.1 < lE) (lo : 1 < dx)
    (h : ∀ h' σ', Fr h₀ L h' m → News h₀ L h' (t :: ledW α ο δ μ σ' (((st.setMark (st.n + 1) st.white).setSize (st.n + 1) z).setEdge (st.n + 1) []).grow) →
      Good w α ω ο δ μ σ' (((st.setMark (st.n + 1) st.white).setSize (st.n + 1) z).setEdge (st.n + 1) []).grow → Q () { s with heap := h', toks := s.toks + 1 }) :
    wpAny (model PP w) A (setItem (.ref (α .all)) (.int k u) (.ref x)) Q E s := by
  have G2 := G.silent3 (Nat.lt_succ_self st.n) st.white z
  have key := set_all_new (E := E) (A := A) (s := s) (Q := Q) (m := m) (h₀ := h₀) (L := L) (tmp := [t]) (st := ((st.setMark (st.n + 1) st.white).setSize (st.n + 1) z).setEdge (st.n + 1) []) (od := od) (eo := PySem.W.listOf #[] 0) (k := k) (u := u) (τ := fun j => if j = 0 then ta else if j = 1 then tb else tc) (α := α) (ω := ω) (ο := ο) (δ := δ) (μ := μ) (σ := σ) (w := w) F
  have e1 : (((st.setMark (st.n + 1) st.white).setSize (st.n + 1) z).setEdge (st.n + 1) []).n = st.n := rfl
  rw [e1] at key
  rw [ex, ed, el] at key
  refine key (News.sub N fun p hp => ?_) (fun p hp hq => ?_) G2 hk hps hpe hn ?_ ⟨[], ⟨0, rfl⟩, ?_⟩ (Nat.ne_of_gt l5) (Nat.ne_of_lt l9.1) (Nat.ne_of_lt l9.2) (fun p hp => ?_) (Nat.lt_trans lo l5) lo (Nat.lt_trans lo l9.2) (fun h' σ' F' N' _ G' => h h' σ' F' N' G')
  · rcases List.mem_append.mp hp with hp | hp
    · rcases List.mem_cons.mp hp with rfl | hp
      · exact .tail _ (.tail _ (.head _))
      rcases List.mem_cons.mp hp with rfl | hp
      · exact .tail _ (.tail _ (.tail _ (.head _)))
      rcases List.mem_cons.mp hp with rfl | hp
      · exact .head _
      · rw [List.mem_singleton.mp hp]; exact .tail _ (.head _)
    · exact .tail _ (.tail _ (.tail _ (.tail _ hp)))
  · have hq' : p.1 ∈ (ledW α ο δ μ σ st).map (·.1) := hq
    rcases List.mem_cons.mp hp with rfl | hp
    · exact off2 _ (.head _) hq'
    rcases List.mem_cons.mp hp with rfl | hp
    · exact off2 _ (.tail _ (.head _)) hq'
    rcases List.mem_cons.mp hp with rfl | hp
    · exact off _ (.head _) (List.mem_cons_of_mem _ (List.mem_cons_of_mem _ hq'))
    · rw [List.mem_singleton.mp hp] at hq'
      exact off _ (.tail _ (.head _)) (List.mem_cons_of_mem _ (List.mem_cons_of_mem _ hq'))
  · have e : objKV (((st.setMark (st.n + 1) st.white).setSize (st.n + 1) z).setEdge (st.n + 1) []) (st.n + 1) (fun j => if j = 0 then ta else if j = 1 then tb else tc) = [(S "number", .int ((st.n + 1 : Nat) : Int) ta), (S "mark", .int st.white tb), (S "size", .int z tc)] := by
      show [(S "number", Value.int ((st.n + 1 : Nat) : Int) ta), (S "mark", .int (if st.n + 1 = st.n + 1 then st.white else st.mark (st.n + 1)) tb), (S "size", .int (if st.n + 1 = st.n + 1 then z else st.size (st.n + 1)) tc)] = _
      rw [if_pos rfl, if_pos rfl]
    rw [e]; exact hod
  · show Nums [] (if st.n + 1 = st.n + 1 then [] else st.edges (st.n + 1))
    rw [if_pos rfl]; exact .nil
  · rw [List.mem_singleton.mp hp]
    exact ⟨Nat.ne_of_gt l6.1, Nat.ne_of_gt l6.2.1, Nat.ne_of_lt l6.2.2⟩
theorem pj_setTurn_n (st : St) (k : Nat) : (st.setTurn k).n = st.n := rfl
theorem pj_setSort_n (st : St) (i : Nat) (k : Int) : (st.setSort i k).n = st.n := rfl
theorem pj_setPs_n (st : St) (k : Nat) : (st.setPs k).n = st.n := rfl
theorem pj_setPe_n (st : St) (k : Nat) : (st.setPe k).n = st.n := rfl
theorem pj_setLive_n (st : St) (l : List Nat) : (st.setLive l).n = st.n := rfl
theorem pj_setTotal_n (st : St) (k : Int) : (st.setTotal k).n = st.n := rfl
theorem pj_setMark_n (st : St) (i : Nat) (k : Int) : (st.setMark i k).n = st.n := rfl
theorem pj_setSize_n (st : St) (i : Nat) (k : Int) : (st.setSize i k).n = st.n := rfl
theorem pj_setSort_turn (st : St) (i : Nat) (k : Int) : (st.setSort i k).turn = st.turn := rfl
theorem pj_setPs_turn (st : St) (k : Nat) : (st.setPs k).turn = st.turn := rfl
theorem pj_setPe_turn (st : St) (k : Nat) : (st.setPe k).turn = st.turn := rfl
theorem pj_setLive_turn (st : St) (l : List Nat) : (st.setLive l).turn = st.turn := rfl
theorem pj_setTotal_turn (st : St) (k : Int) : (st.setTotal k).turn = st.turn := rfl
theorem pj_setMark_turn (st : St) (i : Nat) (k : Int) : (st.setMark i k).turn = st.turn := rfl
theorem pj_setSize_turn (st : St) (i : Nat) (k : Int) : (st.setSize i k).turn = st.turn := rfl
theorem pj_setTurn_live (st : St) (k : Nat) : (st.setTurn k).live = st.live := rfl
theorem pj_setSort_live (st : St) (i : Nat) (k : Int) : (st.setSort i k).live = st.live := rfl
theorem pj_setPs_live (st : St) (k : Nat) : (st.setPs k).live = st.live := rfl
theorem pj_setPe_live (st : St) (k : Nat) : (st.setPe k).live = st.live := rfl
theorem pj_setTotal_live (st : St) (k : Int) : (st.setTotal k).live = st.live := rfl
theorem pj_setMark_live (st : St) (i : Nat) (k : Int) : (st.setMark i k).live = st.live := rfl
theorem pj_setSize_live (st : St) (i : Nat) (k : Int) : (st.setSize i k).live = st.live := rfl
theorem pj_setTurn_total (st : St) (k : Nat) : (st.setTurn k).total = st.total := rfl
theorem pj_setSort_total (st : St) (i : Nat) (k : Int) : (st.setSort i k).total = st.total := rfl
theorem pj_setPs_total (st : St) (k : Nat) : (st.setPs k).total = st.total := rfl
theorem pj_setPe_total (st : St) (k : Nat) : (st.setPe k).total = st.total := rfl
theorem pj_setLive_total (st : St) (l : List Nat) : (st.setLive l).total = st.total := rfl
theorem pj_setMark_total (st : St) (i : Nat) (k : Int) : (st.setMark i k).total = st.total := rfl
theorem pj_setSize_total (st : St) (i : Nat) (k : Int) : (st.setSize i k).total = st.total := rfl
theorem pj_setTurn_white (st : St) (k : Nat) : (st.setTurn k).white = st.white := rfl
theorem pj_setSort_white (st : St) (i : Nat) (k : Int) : (st.setSort i k).white = st.white := rfl
theorem pj_setPs_white (st : St) (k : Nat) : (st.setPs k).white = st.white := rfl
theorem pj_setPe_white (st : St) (k : Nat) : (st.setPe k).white = st.white := rfl
theorem pj_setLive_white (st : St) (l : List Nat) : (st.setLive l).white = st.white := rfl
theorem pj_setTotal_white (st : St) (k : Int) : (st.setTotal k).white = st.white := rfl
theorem pj_setMark_white (st : St) (i : Nat) (k : Int) : (st.setMark i k).white = st.white := rfl
theorem pj_setSize_white (st : St) (i : Nat) (k : Int) : (st.setSize i k).white = st.white := rfl
theorem menu3 {r : Int} (h0 : 0 ≤ r) (h1 : r < 3) : ([0, 1, 3] : List Int).getD r.toNat 0 = 0 ∨ ([0, 1, 3] : List Int).getD r.toNat 0 = 1 ∨ ([0, 1, 3] : List Int).getD r.toNat 0 = 3 := by
  have : r = 0 ∨ r = 1 ∨ r = 2 := by omega
  rcases this with rfl | rfl | rfl <;> decide
section
theorem said_50 : True := by
  k_with "setItem ref" => ((fail_if_success k_extra "m_off12"); ((refine Hold.mk ?_)))
  trivial
theorem new_spec (G : Good w α ω ο δ μ σ st) (hps : st.ps = 0) (hpe : st.pe = 0) (hn : st.n < 15) (hc : st.cells.length ≤ 60) (hl : ∀ i ∈ st.live, i ≤ st.n) (hg : ∀ i ∈ st.grey, i ≤ st.n) (ha : ∀ i ∈ st.again, i ≤ st.n) (hr : ∀ i ∈ st.roots, i ≤ st.n) (hz : st.live.length ≤ 1000) :
    Runs w 385 [.ref (α .world), .ref (α .gut)] 300 3000 (ledW α ο δ μ σ st) (fun v news' => ∃ ο' δ' μ' σ' s z t, v = .int ((st.n + 1 : Nat) : Int) t ∧ (s = 0 ∨ s = 1 ∨ s = 3) ∧ 1 ≤ z ∧ news' = ledW α ο' δ' μ' σ' (newSt st s z) ∧ Good w α ω ο' δ' μ' σ' (newSt st s z)) := by
  (k_extra "m_enter")
  k_steps
  unfold Hold
  (try k_fold)
  (try dsimp only)
  ((refine' Runs.make (fun x dx hx => (obj_init_spec hx).mono (P' := fun v news' => v = .none ∧ ∃ od', news' = [(x, instObj 367 dx), (dx, od')] ∧ ∃ a b c, od'.IsDictOf (sK w) [(S "number", a), (S "mark", b), (S "size", c)]) (fun v n ⟨h1, od', τ, h2, h3⟩ => ⟨h1, od', h2, _, _, _, h3⟩)) ?Bq60 ?Fq60 ?Xq60 ?Nq60 ?Tq60 ?hmq60 ?hiq60 ?hfnq60 ?hAq60 ?hfq60 ?hkq60 ?hhq60 ?hdq60 ?huq60 ?_; (case Bq60 => k_asm); (case Fq60 => k_asm); (case Xq60 => k_asm); (case Nq60 => k_asm); (case Tq60 => k_asm); (case hmq60 => k_is); (case hiq60 => k_is); (case hfnq60 => k_is); (case hAq60 => exact rfl); (case hfq60 => exact rfl); (case hkq60 => exact rfl); (case hhq60 => exact rfl); (case hdq60 => (k_extra "m_room")); (case huq60 => (k_extra "m_units")); k_whole))
  intro x dx od h4 tk4 F4 N4 l4 l5 hod
  have off4 : Off [(x, instObj 367 dx), (dx, od)] (ledW α ο δ μ σ st) := Off.cons (p := (x, instObj 367 dx)) (fun q hq => Nat.ne_of_lt (Nat.lt_trans (l4 q hq) l5)) (off_new l4)
  (try dsimp only)
  k_steps
  unfold Hold
  (try k_fold)
  rename (x < _ ∧ dx < _ ∧ AllLt _ _) => l6
  ((refine' Runs.callT (rainW_spec G (by omega) hc) (off_consA l6.2.2 off4 _) ?Bq61 ?Fq61 ?Xq61 ?Nq61 ?Tq61 ?hAq61 ?hfq61 ?hkq61 ?hhq61 ?hdq61 ?huq61 ?_; (case Bq61 => k_asm); (case Fq61 => k_asm); (case Xq61 => k_asm); (case Nq61 => (k_extra "m_news")); (case Tq61 => k_asm); (case hAq61 => exact rfl); (case hfq61 => exact rfl); (case hkq61 => exact rfl); (case hhq61 => exact rfl); (case hdq61 => (k_extra "m_room")); (case huq61 => (k_extra "m_units")); k_whole))
  refine kE5 ?_
  intro rr tr σ5 h5 tk5 F5 N5 off5 G5 hr0 hr1
  (try dsimp only)
  (try k_fold)
  (try dsimp only [List.cons_append, List.nil_append] at N5)
  (try dsimp only)
  k_steps
  unfold Hold
  (try k_fold)
  (with_reducible rename Fr _ _ _ _ => F7)
  (with_reducible rename News _ _ _ _ => N7)
  (try dsimp only)
  k_dflt (refine set_sorts_new (tmp := [_, _, _]) F7 N7 off5 G5 rfl hps (Nat.le_trans (Nat.le_of_lt hn) (by omega)) ?_)
  intro h8 σ8 F8 N8 off8 G8
  (try dsimp only [List.cons_append, List.nil_append] at N8)
  (try dsimp only)
  k_steps
  unfold Hold
  (try k_fold)
  (with_reducible rename Fr _ _ _ _ => F9)
  (with_reducible rename News _ _ _ _ => N9)
  (try dsimp only)
  rename (_ < _ ∧ _ < _ ∧ _ < _ ∧ AllLt _ _) => l9
  k_dflt (refine set_edges_new (tmp := [_, _, _, _]) F9 N9 (off_consA l9.2.2.2 off8 _) G8 (.head _) rfl hpe (Nat.le_trans (Nat.le_of_lt hn) (by omega)) ?_)
  intro h10 σ10 F10 N10 off10 G10
  (try dsimp only [List.cons_append, List.nil_append] at N10)
  (try dsimp only)
  k_steps
  unfold Hold
  (try k_fold)
  ((refine' Runs.callT (rainW_spec G10 (by omega) hc) off10 ?Bq62 ?Fq62 ?Xq62 ?Nq62 ?Tq62 ?hAq62 ?hfq62 ?hkq62 ?hhq62 ?hdq62 ?huq62 ?_; (case Bq62 => k_asm); (case Fq62 => k_asm); (case Xq62 => k_asm); (case Nq62 => (k_extra "m_news")); (case Tq62 => k_asm); (case hAq62 => exact rfl); (case hfq62 => exact rfl); (case hkq62 => exact rfl); (case hhq62 => exact rfl); (case hdq62 => (k_extra "m_room")); (case huq62 => (k_extra "m_units")); k_whole))
  refine kE5 ?_
  intro rz tz σ11 h11 tk11 F11 N11 off11 G11 hz0 hz1
  (try dsimp only)
  (try k_fold)
  (try dsimp only [List.cons_append, List.nil_append] at N11)
  (try dsimp only)
  k_steps
  unfold Hold
  (try k_fold)
  obtain ⟨qa, qb, qc, hod⟩ := hod
  ((refine' Runs.callT (take_in_spec (x := x) (dx := dx) G11 rfl hod l5 (fun o p hp => off11 (p.1, if p.1 = x then instObj 367 dx else od) (by
      rcases List.mem_cons.mp hp with rfl | hp
      · simp
      · rw [List.mem_singleton.mp hp]
        have : ¬ dx = x := Nat.ne_of_lt l5
        simp [this])) hl hg ha hr hz) (off_up (Off.sub (tmp' := [_, _]) off11 (fun p hp => by
      rcases List.mem_cons.mp hp with rfl | hp
      · exact .head _
      · rw [List.mem_singleton.mp hp]; exact .tail _ (.head _))) (fun p hp => by
      rcases List.mem_cons.mp hp with rfl | hp
      · exact ⟨l9.2.1, l9.2.2.1⟩
      · rw [List.mem_singleton.mp hp]; exact ⟨l6.1, l6.2.1⟩)) ?Bq63 ?Fq63 ?Xq63 ?Nq63 ?Tq63 ?hAq63 ?hfq63 ?hkq63 ?hhq63 ?hdq63 ?huq63 ?_; (case Bq63 => k_asm); (case Fq63 => k_asm); (case Xq63 => k_asm); (case Nq63 => (k_extra "m_news")); (case Tq63 => k_asm); (case hAq63 => exact rfl); (case hfq63 => exact rfl); (case hkq63 => exact rfl); (case hhq63 => exact rfl); (case hdq63 => (k_extra "m_room")); (case huq63 => (k_extra "m_units")); k_whole))
  refine kE13 ?_
  intro od' σ13 ta tb tc h13 tk13 F13 N13 off13 G13 hod' off13b
  (try dsimp only)
  (try k_fold)
  (try dsimp only [List.cons_append, List.nil_append] at N13)
  (try dsimp only)
  k_steps
  unfold Hold
  (try k_fold)
  (with_reducible rename Fr _ _ _ _ => F15)
  (with_reducible rename News _ _ _ _ => N15)
  have lo : 1 < dx := Nat.lt_trans (G.lo .all trivial) (l4 _ (mem_led (r := .all) trivial))
  (try dsimp only)
  k_dflt (refine set_all_new2 G13 (updN_self _ _ _) (updN_self _ _ _) (upd_self _ _ _) F15 N15 off13 off13b hod' rfl rfl rfl (Nat.le_trans (Nat.le_of_lt hn) (by omega)) l5 ⟨l9.2.1, l9.2.2.1⟩ ⟨l6.1, l6.2.1, l9.1⟩ lo ?_)
  intro h16 σ16 F16 N16 G16
  (try dsimp only)
  k_steps
  (try dsimp only)
  simp only [pj_setTurn_n, pj_setSort_n, pj_setPs_n, pj_setPe_n, pj_setLive_n, pj_setTotal_n, pj_setMark_n, pj_setSize_n, pj_setSort_turn, pj_setPs_turn, pj_setPe_turn, pj_setLive_turn, pj_setTotal_turn, pj_setMark_turn, pj_setSize_turn, pj_setTurn_live, pj_setSort_live, pj_setPs_live, pj_setPe_live, pj_setTotal_live, pj_setMark_live, pj_setSize_live, pj_setTurn_total, pj_setSort_total, pj_setPs_total, pj_setPe_total, pj_setLive_total, pj_setMark_total, pj_setSize_total, pj_setTurn_white, pj_setSort_white, pj_setPs_white, pj_setPe_white, pj_setLive_white, pj_setTotal_white, pj_setMark_white, pj_setSize_white] at N16 G16
  exact Done.intro (by k_asm) (News.sub N16 (fun p hp => .tail _ hp)) ⟨_, _, _, σ16, [0, 1, 3].getD rr.toNat 0, 1 + rz, _, rfl, menu3 hr0 hr1, by omega, rfl, G16⟩
end
section
variable {w : World} {α : Role → Addr} {ω : Role → Obj} {A1 : Heap → Prop} {A2 A3 : Heap → List (Addr × Obj) → Prop} {C : Value → Heap → Tok → Prop} {l : List (Addr × Obj)}
theorem said_51 : True := by
  k_with "m_off12" => (skip)
  trivial
theorem kE10 {n : Int} {X : Int → Int → St} (k : ∀ ο' δ' μ' σ' s z t h' tk', A1 h' → A2 h' (ledW α ο' δ' μ' σ' (X s z)) → A3 h' (ledW α ο' δ' μ' σ' (X s z)) → (s = 0 ∨ s = 1 ∨ s = 3) → 1 ≤ z → Good w α ω ο' δ' μ' σ' (X s z) → C (.int n t) h' tk') :
    ∀ r nw h' tk', A1 h' → A2 h' nw → A3 h' nw → (∃ ο' δ' μ' σ' s z t, r = .int n t ∧ (s = 0 ∨ s = 1 ∨ s = 3) ∧ 1 ≤ z ∧ nw = ledW α ο' δ' μ' σ' (X s z) ∧ Good w α ω ο' δ' μ' σ' (X s z)) → C r h' tk' := by
  rintro r nw h' tk' a b a3 ⟨ο', δ', μ', σ', s, z, t, rfl, h1, h2, rfl, G⟩; exact k ο' δ' μ' σ' s z t h' tk' a b a3 h1 h2 G
end
end

section
open PySem PySem.W PySem.Calls PyProof.Rows PyProof.Rows.LCg PyProof.Rows.LCt
variable {w : World} {α : Role → Addr} {ω : Role → Obj} {ο δ : Nat → Addr} {μ : Role → Addr} {σ : Role → Obj} {st : St}
section
variable {A : Around} {E : Value → Shared → Prop} {s : Shared} {L : Addr} {h₀ : Heap} {m : Str → Option Value} {news tmp : List (Addr × Obj)} {Q : Value → Shared → Prop}
theorem len_nums {D : Addr} {c : Nat} {vs : List Value} {R : List Nat} (N : News h₀ L s.heap news) (hm : (D, PySem.W.listOf vs.toArray c) ∈ news) (hv : Nums vs R) (hz : R.length ≤ 10000)
    (h : Q (.int R.length (s.toks + 1)) { s with toks := s.toks + 1 + 1 }) : wpAny (model PP w) A (call (.builtin "len") [.ref D]) Q E s := by
  have hl : s.heap.IsList D vs.toArray := ⟨_, (N _ hm).1, rfl, c, rfl⟩
  have hlen := hv.len
  refine Calls.call_len_list hl (by rw [List.size_toArray]; omega) ?_
  rw [List.size_toArray, hlen]; exact h
variable {α : Role → Addr} {ω : Role → Obj} {ο δ : Nat → Addr} {μ : Role → Addr} {σ : Role → Obj} {st : St}
/-- «edges[one][1:]» -/
theorem slice_edge {value slice : PySem.Expr} {vl vu : Value} {i : Nat} (F : Fr h₀ L s.heap m) (N : News h₀ L s.heap news) (hn : ∀ p ∈ ledW α ο δ μ σ st, p ∈ news) (G : Good w α ω ο δ μ σ st) (hi : st.ok i) (hz : (st.edges i).length ≤ 10000) (pl : IsPart vl (some 1)) (pu : IsPart vu none)
    (h : ∀ D ws h', Fr h₀ L h' m → News h₀ L h' ((D, PySem.W.listOf (List.toArray ws) 0) :: news) → (∀ p ∈ news, p.1 < D) → Nums ws ((st.edges i).drop 1) → Q (.ref D) { s with heap := h' })
    (hs : subscripted slice false (.ref (μ (.edge i))) (.ref s.heap.objs.size) = operate [.ref s.heap.objs.size, .ref (μ (.edge i))] (getItem (.ref (μ (.edge i))) (.ref s.heap.objs.size))) (ht : ∀ r, letTemporaryGo value (.ref (μ (.edge i))) r = pure ()) :
    wpAny (model PP w) A (subscriptTail value slice (.ref (μ (.edge i))) (.ref s.heap.objs.size)) Q E { s with heap := s.heap.push { cls := .type "slice", data := .fields #[vl, vu, .none] } } := by
  obtain ⟨vs, ⟨k, hL⟩, hN⟩ := G.sh (.edge i) hi
  have hm := hn _ (mem_led (β := adr α ο δ μ) (σ := σ) (n := st.n) (r := .edge i) hi)
  rw [hL] at hm
  have hl : s.heap.IsList (μ (.edge i)) vs.toArray := ⟨_, (N _ hm).1, rfl, k, rfl⟩
  have hI := hN.ints
  refine kmk_slice_ints F N hl pl pu hI (kmk_from hI (by omega)) rfl (fun D ws h' F' N' l1 hI' _ _ => h D ws h' F' N' l1 (Nums.ofInts ?_)) hs ht (by rw [List.size_toArray, hN.len, sizeLine_eq]; omega)
  rw [← List.map_drop] at hI'
  exact hI'
theorem Good.edgeL (G : Good w α ω ο δ μ σ st) {i : Nat} (hi : st.ok i) : ∃ vs, IsLO (σ (.edge i)) vs := by
  obtain ⟨vs, h, _⟩ := G.sh (.edge i) hi
  exact ⟨vs, h⟩
theorem setTurn3 (st : St) (a b c : Nat) : ((st.setTurn a).setTurn b).setTurn c = st.setTurn c := rfl
end
section
theorem said_52 : True := by
  k_with "call builtin:list.append" => ((fail_if_success k_extra "m_off13"); (k_here; k_dflt ((with_reducible refine' app_edge ?zqF ?zqN ?zqoff ?zqG ?zqe1 ?zqa1 ?_); (k_extra "m_sn"))))
  k_with "getMethod ref" => ((fail_if_success k_extra "m_off13"); (k_here; (with_reducible refine' meth_lo (r := .edge _) ?zqG ?zqN ?zqs ?zqa1 ?zqhL PySem.F.slot_list_append PySem.F.type_list_append ?zqr1 ?_); k_dflt ((k_extra "m_s"); (case zqhL => exact (Good.edgeL (by assumption) (by assumption)).choose_spec))))
  k_with "subscriptTail" => ((fail_if_success k_extra "m_off13"); (k_here; (with_reducible show wpAny _ _ (subscriptTail _ (PySem.Expr.Slice _ _ none _) (Value.ref ((_ : Role → Addr) (Role.edge _))) (Value.ref _)) _ _ _); k_dflt (refine' slice_edge ?zqF ?zqN ?zqhn ?zqG ?zqhi ?zqhz ?zqp ?zqq ?_ ?zqs ?zqt; (case zqG => assumption); (case zqF => k_asm); (case zqN => k_asm); (case zqhn => (k_extra "m_sub")); (case zqhi => assumption); (case zqhz => assumption); (case zqp => kmk_part); (case zqq => kmk_part); (case zqs => with_unfolding_all rfl); (case zqt => kmk_pure)); intros; (try k_sweep)))
  k_with "call builtin:len" => ((fail_if_success k_extra "m_off13"); (k_here; k_dflt (refine' len_nums ?zqN ?zqk1 ?zqa1 ?zqz1 ?_; (k_extra "m_sw"))))
  k_with "subscriptTail" => ((fail_if_success k_extra "m_off13"); (k_here; (with_reducible show wpAny _ _ (subscriptTail _ _ (Value.ref _) (Value.int _ _)) _ _ _); k_dflt (refine' item_nums ?zqN ?zqk1 ?zqa1 ?zqa2 ?zqa3 ?zqz1 ?_; (k_extra "m_sw"); intros)))
  trivial
/-- «_law_done» -/
theorem done_spec (Fn : Fns w α ω) {k : Nat} (G : Good w α ω ο δ μ σ st) (hI : InvF k st.freed st) (hk : k < 12) (hps : st.ps = 0) (hpe : st.pe = 0) (hc : st.cells.length ≤ 60) :
    Runs w 414 [.ref (α .world), .ref (α .gut)] 420 4200 (ledW α ο δ μ σ st) (fun v news' => ∃ ο' δ' μ' σ' st', v = .bool true ∧ news' = ledW α ο' δ' μ' σ' st' ∧ Good w α ω ο' δ' μ' σ' st' ∧ InvF (k + 1) st'.freed st' ∧ st'.ps = 0 ∧ st'.pe = 0 ∧ st'.cells = st.cells) := by
  have hsm := hI.wf.small
  have hn1 := hI.n1
  (k_extra "m_enter")
  k_steps
  unfold Hold
  (try k_fold)
  ((refine' Runs.call (reached_spec G hI.wf hn1) ?Bq64 ?Fq64 ?Xq64 ?Nq64 ?Tq64 ?hAq64 ?hfq64 ?hkq64 ?hhq64 ?hdq64 ?huq64 ?_; (case Bq64 => k_asm); (case Fq64 => k_asm); (case Xq64 => k_asm); (case Nq64 => (k_extra "m_news")); (case Tq64 => k_asm); (case hAq64 => exact rfl); (case hfq64 => exact rfl); (case hkq64 => exact rfl); (case hhq64 => exact rfl); (case hdq64 => (k_extra "m_room")); (case huq64 => (k_extra "m_units")); k_whole; (try dsimp only)))
  refine kE9 ?_
  intro D vs R c h1 tk1 F1 N1 hKp offD hv hnd hso hR
  clear hKp
  (try dsimp only)
  (try k_fold)
  have hRl : ∀ i ∈ R, i ∈ st.live := fun i hi => hI.reach i ((hR i).mp hi)
  have hRn : R.length ≤ 15 := Nat.le_trans (len_of_sub hnd hRl) (Nat.le_trans hI.llen hsm)
  have hR0 : 0 < R.length := List.length_pos_of_mem ((hR 1).mpr .root)
  k_steps
  unfold Hold
  (try k_fold)
  ((refine' Runs.callT (rainW_spec G (by omega) hc) offD ?Bq65 ?Fq65 ?Xq65 ?Nq65 ?Tq65 ?hAq65 ?hfq65 ?hkq65 ?hhq65 ?hdq65 ?huq65 ?_; (case Bq65 => k_asm); (case Fq65 => k_asm); (case Xq65 => k_asm); (case Nq65 => (k_extra "m_news")); (case Tq65 => k_asm); (case hAq65 => exact rfl); (case hfq65 => exact rfl); (case hkq65 => exact rfl); (case hhq65 => exact rfl); (case hdq65 => (k_extra "m_room")); (case huq65 => (k_extra "m_units")); k_whole))
  refine kE5 ?_
  intro kd td σ2 h2 tk2 F2 N2 off2 G2 hk0 hk1
  (try dsimp only)
  (try k_fold)
  (try dsimp only [List.cons_append, List.nil_append] at N2)
  (try dsimp only)
  k_steps
  unfold Hold
  (try k_fold)
  ((refine' Runs.callT (rainW_spec G2 (by omega) hc) off2 ?Bq66 ?Fq66 ?Xq66 ?Nq66 ?Tq66 ?hAq66 ?hfq66 ?hkq66 ?hhq66 ?hdq66 ?huq66 ?_; (case Bq66 => k_asm); (case Fq66 => k_asm); (case Xq66 => k_asm); (case Nq66 => (k_extra "m_news")); (case Tq66 => k_asm); (case hAq66 => exact rfl); (case hfq66 => exact rfl); (case hkq66 => exact rfl); (case hhq66 => exact rfl); (case hdq66 => (k_extra "m_room")); (case huq66 => (k_extra "m_units")); k_whole))
  refine kE5 ?_
  intro ra ta σ3 h3 tk3 F3 N3 off3 G3 ha0 ha1
  (try dsimp only)
  (try k_fold)
  (try dsimp only [List.cons_append, List.nil_append] at N3)
  (try dsimp only)
  k_steps
  unfold Hold
  (try k_fold)
  rename (_ ∈ R) => hone
  ((refine' Runs.callT (rainW_spec G3 (by omega) hc) off3 ?Bq67 ?Fq67 ?Xq67 ?Nq67 ?Tq67 ?hAq67 ?hfq67 ?hkq67 ?hhq67 ?hdq67 ?huq67 ?_; (case Bq67 => k_asm); (case Fq67 => k_asm); (case Xq67 => k_asm); (case Nq67 => (k_extra "m_news")); (case Tq67 => k_asm); (case hAq67 => exact rfl); (case hfq67 => exact rfl); (case hkq67 => exact rfl); (case hhq67 => exact rfl); (case hdq67 => (k_extra "m_room")); (case huq67 => (k_extra "m_units")); k_whole))
  refine kE5 ?_
  intro rb tb σ4 h4 tk4 F4 N4 off4 G4 hb0 hb1
  (try dsimp only)
  (try k_fold)
  (try dsimp only [List.cons_append, List.nil_append] at N4)
  (try dsimp only)
  have hOn : HoldOn := trivial
  k_steps
  unfold Hold
  (try k_fold)
  (with_reducible rename HoldOn => hOn9)
  clear hOn9
  have hok : ∀ i ∈ R, st.ok i := fun i hi => hI.lok (hRl i hi)
  rename (_ ∈ R) => hoth
  (with_reducible rename Fr _ _ _ _ => F5)
  (with_reducible rename News _ _ _ _ => N5)
  rename_i one u1 _ _ oth uo D9 h9a l9 h9b h9c h9d
  replace G4 : Good w α ω ο δ μ σ4 (st.setTurn (st.turn + 1 + 1 + 1)) := G4
  replace N5 : News _ _ _ (ledW α ο δ μ σ4 (st.setTurn (st.turn + 1 + 1 + 1))) := News.sub N5 (fun p hp => .tail _ (.tail _ hp))
  have hI4 := hI.setTurn (st.turn + 1 + 1 + 1)
  have e4 : (st.setTurn (st.turn + 1 + 1 + 1)).freed = st.freed ∧ (st.setTurn (st.turn + 1 + 1 + 1)).ps = st.ps ∧ (st.setTurn (st.turn + 1 + 1 + 1)).pe = st.pe ∧ (st.setTurn (st.turn + 1 + 1 + 1)).cells = st.cells ∧ (st.setTurn (st.turn + 1 + 1 + 1)).edges = st.edges ∧ (st.setTurn (st.turn + 1 + 1 + 1)).live = st.live ∧ (st.setTurn (st.turn + 1 + 1 + 1)).n = st.n := ⟨rfl, rfl, rfl, rfl, rfl, rfl, rfl⟩
  generalize st.setTurn (st.turn + 1 + 1 + 1) = s4 at G4 N5 hI4 e4
  have ef := e4.1
  have ep := e4.2.1
  have eq := e4.2.2.1
  have ec := e4.2.2.2.1
  have ee := e4.2.2.2.2.1
  have el := e4.2.2.2.2.2.1
  have en := e4.2.2.2.2.2.2
  clear e4
  rw [← ef] at hI4
  have hol : one ∈ s4.live := by rw [el]; exact hRl _ hone
  have htl : oth ∈ s4.live := by rw [el]; exact hRl _ hoth
  have hro : Reach s4.edges one := by rw [ee]; exact (hR _).mp hone
  have hrt : Reach s4.edges oth := by rw [ee]; exact (hR _).mp hoth
  have hok1 : s4.ok one := hI4.lok hol
  have hok2 : s4.ok oth := hI4.lok htl
  have hel : (s4.edges one).length ≤ 10000 := by have := hI4.ek one hok1; omega
  clear off2 off3 off4 l9 offD G G2 G3
  have hc4 : s4.cells.length ≤ 60 := by rw [ec]; exact hc
  have hps4 : s4.ps = 0 := ep.trans hps
  have hpe4 : s4.pe = 0 := eq.trans hpe
  have hek := hI4.ek one hok1
  have hnk := hI4.nk
  have hn4 := hI4.wf.small
  k_steps
  · unfold Hold
    (try k_fold)
    have hll := hI4.llen
    ((refine' Runs.call (new_spec G4 hps4 hpe4 (by omega) hc4 (fun i hi => (hI4.lok hi).2) (fun i hi => (hI4.lok (hI4.gl i hi).1).2) (fun i hi => (hI4.wg.again i hi).2) (fun i hi => (hI4.wg.roots i hi).2) (by omega)) ?Bq68 ?Fq68 ?Xq68 ?Nq68 ?Tq68 ?hAq68 ?hfq68 ?hkq68 ?hhq68 ?hdq68 ?huq68 ?_; (case Bq68 => k_asm); (case Fq68 => k_asm); (case Xq68 => k_asm); (case Nq68 => (k_extra "m_news")); (case Tq68 => k_asm); (case hAq68 => exact rfl); (case hfq68 => exact rfl); (case hkq68 => exact rfl); (case hhq68 => exact rfl); (case hdq68 => (k_extra "m_room")); (case huq68 => (k_extra "m_units")); k_whole; (try dsimp only)))
    refine kE10 ?_
    intro ο6 δ6 μ6 σ6 sv zv tv h6 tk6 F6 N6 hKp hsv hzv G6
    clear hKp
    (try dsimp only)
    (try k_fold)
    have hI6 : InvF (k + 1) s4.freed (newSt s4 sv zv) := hI4.new hk hsv hzv
    have e6 : Kp s4 (newSt s4 sv zv) := ⟨rfl, hps4.symm, hpe4.symm, rfl⟩
    have hol6 : one ∈ (newSt s4 sv zv).live := by rw [new_live]; exact List.mem_append_left _ hol
    have hnl6 : (s4.n + 1) ∈ (newSt s4 sv zv).live := by rw [new_live]; simp
    have hee6 : ((newSt s4 sv zv).edges one).length < 3 + (k + 1) := by rw [new_edges sv zv (by have := hok1.2; omega)]; omega
    have hw6 : (newSt s4 sv zv).phase = 2 → (newSt s4 sv zv).mark (s4.n + 1) ≠ 1 - (newSt s4 sv zv).white := fun _ => by
      rw [new_mark', new_white]; have := hI4.wh; omega
    generalize newSt s4 sv zv = s6 at G6 N6 hI6 e6 hol6 hnl6 hee6 hw6
    generalize s4.n + 1 = nn at N6 F6 hnl6 hw6 ⊢
    have hok61 : s6.ok one := hI6.lok hol6
    have hok62 : s6.ok nn := hI6.lok hnl6
    have hel6 : (s6.edges one).length ≤ 10000 := by omega
    clear G4
    k_steps
    unfold Hold
    (try k_fold)
    (with_reducible rename Good _ _ _ _ _ _ _ (St.setEdge _ _ _) => G7)
    ((refine' Runs.call (barrier_spec Fn G7 (hI6.wgEdge hok62 (by omega)) hok61 hok62) ?Bq69 ?Fq69 ?Xq69 ?Nq69 ?Tq69 ?hAq69 ?hfq69 ?hkq69 ?hhq69 ?hdq69 ?huq69 ?_; (case Bq69 => k_asm); (case Fq69 => k_asm); (case Xq69 => k_asm); (case Nq69 => (k_extra "m_news")); (case Tq69 => k_asm); (case hAq69 => exact rfl); (case hfq69 => exact rfl); (case hkq69 => exact rfl); (case hhq69 => exact rfl); (case hdq69 => (k_extra "m_room")); (case huq69 => (k_extra "m_units")); k_whole; (try dsimp only)))
    refine kE1 ?_
    intro σ8 h8 tk8 F8 N8 hKp G8
    clear hKp
    (try dsimp only)
    (try k_fold)
    have hI8 : InvF (k + 1) s4.freed (barrier (s6.setEdge one (s6.edges one ++ [nn])) one nn (decide ((s6.setEdge one (s6.edges one ++ [nn])).phase = 1))) := hI6.append hol6 hnl6 hee6 hw6
    have e8 := barrier_kp (s6.setEdge one (s6.edges one ++ [nn])) one nn (decide ((s6.setEdge one (s6.edges one ++ [nn])).phase = 1))
    generalize barrier (s6.setEdge one (s6.edges one ++ [nn])) one nn (decide ((s6.setEdge one (s6.edges one ++ [nn])).phase = 1)) = s8 at G8 N8 hI8 e8
    have ef8 : s8.freed = s4.freed := e8.freed.trans e6.freed
    clear G7
    k_steps
    unfold Hold
    (try k_fold)
    ((refine' Runs.call (held_spec G8 hI8.wf hI8.n1 (hI8.held ef8) (fun i hi => hI8.lok (hI8.gl i hi).1) hI8.greyLen) ?Bq70 ?Fq70 ?Xq70 ?Nq70 ?Tq70 ?hAq70 ?hfq70 ?hkq70 ?hhq70 ?hdq70 ?huq70 ?_; (case Bq70 => k_asm); (case Fq70 => k_asm); (case Xq70 => k_asm); (case Nq70 => (k_extra "m_news")); (case Tq70 => k_asm); (case hAq70 => exact rfl); (case hfq70 => exact rfl); (case hkq70 => exact rfl); (case hhq70 => exact rfl); (case hdq70 => (k_extra "m_room")); (case huq70 => (k_extra "m_units")); k_whole; (try dsimp only)))
    refine kRT ?_
    intro h9 tk9 F9 N9 hKp
    clear hKp
    (try dsimp only)
    (try k_fold)
    (try dsimp only)
    exact Done.intro F9 N9 ⟨_, _, _, _, s8, rfl, rfl, G8, ef8 ▸ hI8, e8.ps.trans (e6.ps.trans hps4), e8.pe.trans (e6.pe.trans hpe4), e8.cells.trans (e6.cells.trans ec)⟩
  · unfold Hold
    (try k_fold)
    (with_reducible rename Good _ _ _ _ _ _ _ (St.setEdge _ _ _) => G7)
    have hI6 := hI4.up (Nat.le_succ k) hk
    ((refine' Runs.call (barrier_spec Fn G7 (hI4.wgEdge hok2 (by omega)) hok1 hok2) ?Bq71 ?Fq71 ?Xq71 ?Nq71 ?Tq71 ?hAq71 ?hfq71 ?hkq71 ?hhq71 ?hdq71 ?huq71 ?_; (case Bq71 => k_asm); (case Fq71 => k_asm); (case Xq71 => k_asm); (case Nq71 => (k_extra "m_news")); (case Tq71 => k_asm); (case hAq71 => exact rfl); (case hfq71 => exact rfl); (case hkq71 => exact rfl); (case hhq71 => exact rfl); (case hdq71 => (k_extra "m_room")); (case huq71 => (k_extra "m_units")); k_whole; (try dsimp only)))
    refine kE1 ?_
    intro σ8 h8 tk8 F8 N8 hKp G8
    clear hKp
    (try dsimp only)
    (try k_fold)
    have hI8 : InvF (k + 1) s4.freed (barrier (s4.setEdge one (s4.edges one ++ [oth])) one oth (decide ((s4.setEdge one (s4.edges one ++ [oth])).phase = 1))) := hI6.append hol htl (by omega) (fun hp => hI4.reach2 hp hrt)
    have e8 := barrier_kp (s4.setEdge one (s4.edges one ++ [oth])) one oth (decide ((s4.setEdge one (s4.edges one ++ [oth])).phase = 1))
    generalize barrier (s4.setEdge one (s4.edges one ++ [oth])) one oth (decide ((s4.setEdge one (s4.edges one ++ [oth])).phase = 1)) = s8 at G8 N8 hI8 e8
    have ef8 : s8.freed = s4.freed := e8.freed
    clear G7 G4
    k_steps
    unfold Hold
    (try k_fold)
    ((refine' Runs.call (held_spec G8 hI8.wf hI8.n1 (hI8.held ef8) (fun i hi => hI8.lok (hI8.gl i hi).1) hI8.greyLen) ?Bq72 ?Fq72 ?Xq72 ?Nq72 ?Tq72 ?hAq72 ?hfq72 ?hkq72 ?hhq72 ?hdq72 ?huq72 ?_; (case Bq72 => k_asm); (case Fq72 => k_asm); (case Xq72 => k_asm); (case Nq72 => (k_extra "m_news")); (case Tq72 => k_asm); (case hAq72 => exact rfl); (case hfq72 => exact rfl); (case hkq72 => exact rfl); (case hhq72 => exact rfl); (case hdq72 => (k_extra "m_room")); (case huq72 => (k_extra "m_units")); k_whole; (try dsimp only)))
    refine kRT ?_
    intro h9 tk9 F9 N9 hKp
    clear hKp
    (try dsimp only)
    (try k_fold)
    (try dsimp only)
    exact Done.intro F9 N9 ⟨_, _, _, _, s8, rfl, rfl, G8, ef8 ▸ hI8, e8.ps.trans hps4, e8.pe.trans hpe4, e8.cells.trans ec⟩
  · (with_reducible rename Fr _ _ _ _ => F7)
    (with_reducible rename News _ _ _ _ => N7)
    rename (∀ p ∈ ledW α ο δ μ σ4 s4, p.1 < _) => l7
    rename Nums _ (List.drop _ _) => hv7
    k_dflt (refine set_edgesT (tmp := []) F7 N7 l7 off_nil G4 hok1 (by omega) (by omega) hv7 ?_)
    intro h8 σ8 F8 N8 _ G8
    (try simp only [List.nil_append] at N8)
    have hI8 := (hI4.dropped hol).up (Nat.le_succ k) hk
    have ef8 : (s4.setEdge one ((s4.edges one).drop 1)).freed = s4.freed := rfl
    have e8 : Kp s4 (s4.setEdge one ((s4.edges one).drop 1)) := ⟨rfl, rfl, rfl, rfl⟩
    generalize s4.setEdge one ((s4.edges one).drop 1) = s8 at G8 N8 hI8 e8 ef8
    (try dsimp only)
    clear G4 N7 F7
    k_steps
    unfold Hold
    (try k_fold)
    ((refine' Runs.call (held_spec G8 hI8.wf hI8.n1 (hI8.held ef8) (fun i hi => hI8.lok (hI8.gl i hi).1) hI8.greyLen) ?Bq73 ?Fq73 ?Xq73 ?Nq73 ?Tq73 ?hAq73 ?hfq73 ?hkq73 ?hhq73 ?hdq73 ?huq73 ?_; (case Bq73 => k_asm); (case Fq73 => k_asm); (case Xq73 => k_asm); (case Nq73 => (k_extra "m_news")); (case Tq73 => k_asm); (case hAq73 => exact rfl); (case hfq73 => exact rfl); (case hkq73 => exact rfl); (case hhq73 => exact rfl); (case hdq73 => (k_extra "m_room")); (case huq73 => (k_extra "m_units")); k_whole; (try dsimp only)))
    refine kRT ?_
    intro h9 tk9 F9 N9 hKp
    clear hKp
    (try dsimp only)
    (try k_fold)
    (try dsimp only)
    exact Done.intro F9 N9 ⟨_, _, _, _, s8, rfl, rfl, G8, ef8 ▸ hI8, e8.ps.trans hps4, e8.pe.trans hpe4, e8.cells.trans ec⟩
  · unfold Hold
    (try k_fold)
    have hp4 : s4.phase = 1 := by assumption
    ((refine' Runs.call (barrier_back_spec G4 hI4.wg hok1) ?Bq74 ?Fq74 ?Xq74 ?Nq74 ?Tq74 ?hAq74 ?hfq74 ?hkq74 ?hhq74 ?hdq74 ?huq74 ?_; (case Bq74 => k_asm); (case Fq74 => k_asm); (case Xq74 => k_asm); (case Nq74 => (k_extra "m_news")); (case Tq74 => k_asm); (case hAq74 => exact rfl); (case hfq74 => exact rfl); (case hkq74 => exact rfl); (case hhq74 => exact rfl); (case hdq74 => (k_extra "m_room")); (case huq74 => (k_extra "m_units")); k_whole; (try dsimp only)))
    refine kE1 ?_
    intro σ8 h8 tk8 F8 N8 hKp G8
    clear hKp
    (try dsimp only)
    (try k_fold)
    have hI8 := hI4.back hp4 hol hk
    have e8 := barrierBack_kp s4 one
    generalize barrierBack s4 one = s8 at G8 N8 hI8 e8
    have ef8 : s8.freed = s4.freed := e8.freed
    clear G4
    k_steps
    unfold Hold
    (try k_fold)
    ((refine' Runs.call (held_spec G8 hI8.wf hI8.n1 (hI8.held ef8) (fun i hi => hI8.lok (hI8.gl i hi).1) hI8.greyLen) ?Bq75 ?Fq75 ?Xq75 ?Nq75 ?Tq75 ?hAq75 ?hfq75 ?hkq75 ?hhq75 ?hdq75 ?huq75 ?_; (case Bq75 => k_asm); (case Fq75 => k_asm); (case Xq75 => k_asm); (case Nq75 => (k_extra "m_news")); (case Tq75 => k_asm); (case hAq75 => exact rfl); (case hfq75 => exact rfl); (case hkq75 => exact rfl); (case hhq75 => exact rfl); (case hdq75 => (k_extra "m_room")); (case huq75 => (k_extra "m_units")); k_whole; (try dsimp only)))
    refine kRT ?_
    intro h9 tk9 F9 N9 hKp
    clear hKp
    (try dsimp only)
    (try k_fold)
    (try dsimp only)
    exact Done.intro F9 N9 ⟨_, _, _, _, s8, rfl, rfl, G8, ef8 ▸ hI8, e8.ps.trans hps4, e8.pe.trans hpe4, e8.cells.trans ec⟩
  · unfold Hold
    (try k_fold)
    have hI8 := hI4.up (Nat.le_succ k) hk
    ((refine' Runs.call (held_spec G4 hI8.wf hI8.n1 (hI8.held rfl) (fun i hi => hI8.lok (hI8.gl i hi).1) hI8.greyLen) ?Bq76 ?Fq76 ?Xq76 ?Nq76 ?Tq76 ?hAq76 ?hfq76 ?hkq76 ?hhq76 ?hdq76 ?huq76 ?_; (case Bq76 => k_asm); (case Fq76 => k_asm); (case Xq76 => k_asm); (case Nq76 => (k_extra "m_news")); (case Tq76 => k_asm); (case hAq76 => exact rfl); (case hfq76 => exact rfl); (case hkq76 => exact rfl); (case hhq76 => exact rfl); (case hdq76 => (k_extra "m_room")); (case huq76 => (k_extra "m_units")); k_whole; (try dsimp only)))
    refine kRT ?_
    intro h9 tk9 F9 N9 hKp
    clear hKp
    (try dsimp only)
    (try k_fold)
    (try dsimp only)
    exact Done.intro F9 N9 ⟨_, _, _, _, s4, rfl, rfl, G4, hI8, hps4, hpe4, ec⟩
  · unfold Hold
    (try k_fold)
    ((refine' Runs.call (stepped_spec Fn G4 hI4) ?Bq77 ?Fq77 ?Xq77 ?Nq77 ?Tq77 ?hAq77 ?hfq77 ?hkq77 ?hhq77 ?hdq77 ?huq77 ?_; (case Bq77 => k_asm); (case Fq77 => k_asm); (case Xq77 => k_asm); (case Nq77 => (k_extra "m_news")); (case Tq77 => k_asm); (case hAq77 => exact rfl); (case hfq77 => exact rfl); (case hkq77 => exact rfl); (case hhq77 => exact rfl); (case hdq77 => (k_extra "m_room")); (case huq77 => (k_extra "m_units")); k_whole; (try dsimp only)))
    refine kE6 ?_
    intro μ9 σ9 h9 tk9 F9 N9 hKp G9
    clear hKp
    (try dsimp only)
    (try k_fold)
    have hI9 := hI4.stepped.up (Nat.le_succ k) hk
    have e9 := single_kp hI4
    (try dsimp only)
    exact Done.intro F9 N9 ⟨_, _, _, _, stepped s4, rfl, rfl, G9, hI9, e9.ps.trans hps4, e9.pe.trans hpe4, e9.cells.trans ec⟩
end
section
variable {w : World} {α : Role → Addr} {ω : Role → Obj} {A1 : Heap → Prop} {A2 A3 : Heap → List (Addr × Obj) → Prop} {C : Value → Heap → Tok → Prop} {l : List (Addr × Obj)}
theorem said_53 : True := by
  k_with "m_off13" => (skip)
  trivial
theorem kE11 {n : Nat} {cs : List Int} (k : ∀ ο' δ' μ' σ' st' h' tk', A1 h' → A2 h' (ledW α ο' δ' μ' σ' st') → A3 h' (ledW α ο' δ' μ' σ' st') → Good w α ω ο' δ' μ' σ' st' → InvF n st'.freed st' → st'.ps = 0 → st'.pe = 0 → st'.cells = cs → C (.bool true) h' tk') :
    ∀ r nw h' tk', A1 h' → A2 h' nw → A3 h' nw → (∃ ο' δ' μ' σ' st', r = .bool true ∧ nw = ledW α ο' δ' μ' σ' st' ∧ Good w α ω ο' δ' μ' σ' st' ∧ InvF n st'.freed st' ∧ st'.ps = 0 ∧ st'.pe = 0 ∧ st'.cells = cs) → C r h' tk' := by
  rintro r nw h' tk' a b a3 ⟨ο', δ', μ', σ', st', rfl, rfl, G, h1, h2, h3, h4⟩; exact k ο' δ' μ' σ' st' h' tk' a b a3 G h1 h2 h3 h4
end
end

section
open PySem PySem.W PySem.Calls PyProof.Rows PyProof.Rows.LCg PyProof.Rows.LCt
variable {w : World}
/-- an object is made whose «__init__» makes more -/
theorem Runs.makeN {w : World} {fI C : Addr} {rest : List Value} {D U : Nat} {P : Addr → Addr → List (Addr × Obj) → Prop}
    (H : ∀ x dx, dx < x → Runs w fI (.ref x :: rest) D U [(x, instObj C dx), (dx, dictOf [] 0)] (fun v nw => v = .none ∧ P x dx nw))
    {p : Program} {loose : List Str} {mean : ExcName → Option Value} {mg mb : Str → Option Value} {A : Around} {env : Env} {outer : List Env} {A₀ : Around} {base h₀ : Heap} {L : Addr} {m : Str → Option Value} {s : Shared} {Q E : Value → Shared → Prop} {news : List (Addr × Obj)}
    (B : Below A₀ base outer h₀) (F : Fr h₀ L s.heap m) (X : (hd0.heap_1 w.params).In h₀) (N : News h₀ L s.heap news) (T : Top p loose mean mg mb h₀)
    (hm : makesIn (hd0.heap_1 w.params) C = true) (hi : findIn (hd0.heap_1 w.params) (.ref C) "__init__" = some (some (.ref fI))) (hfn : isFn (hd0.heap_1 w.params) (.ref fI) = true)
    (hA : A.frames = some (env :: outer)) (hf : env.frame = some L) (hk : env.scope.kind = .function) (hh : A.handled = none) (hd : A.depth + D + 2 < recursionLimit) (hu : A.units + U + 8 < cLine)
    (k : ∀ x dx nw h' tk', Fr h₀ L h' m → News h₀ L h' (nw ++ news) → (∀ p ∈ news, p.1 < dx) → dx < x → P x dx nw → Q (.ref x) { s with heap := h', toks := tk' }) :
    wpAny (model PP w) A (PySem.call (.ref C) rest) Q E s := by
  refine call_cls F X N hm hi hfn fun x dx h' F' N' l1 l2 => ?_
  have off : Off news [(x, instObj C dx), (dx, dictOf [] 0)] := fun p hp hq => by
    have h1 := l1 p hp
    obtain ⟨q, hq, e⟩ := List.mem_map.mp hq
    rcases List.mem_cons.mp hq with rfl | hq
    · rw [← e] at h1; exact Nat.lt_irrefl _ (Nat.lt_trans h1 l2)
    · rw [List.mem_singleton.mp hq] at e; rw [← e] at h1; exact Nat.lt_irrefl _ h1
  have Nn : News h₀ L h' news := fun p hp => N' p (.tail _ (.tail _ hp))
  have Nt : News h₀ L h' [(x, instObj C dx), (dx, dictOf [] 0)] := fun p hp => N' p (by
    rcases List.mem_cons.mp hp with rfl | hp
    · exact .head _
    · rw [List.mem_singleton.mp hp]; exact .tail _ (.head _))
  refine H x dx l2 p loose mean mg mb _ env outer A₀ base h₀ L m { s with heap := h' } _ B F' X Nt T hA hf hk hh ?_ ?_ ?_
  · simp only [depth_under_make]; (first | lia | omega)
  · rw [units_under_make]; (first | lia | omega)
  · rintro r nw h'' tk' F'' N'' kp ⟨rfl, hP⟩
    refine ⟨rfl, ?_⟩
    obtain ⟨a, _⟩ := News.after Nn off kp N''
    refine k x dx nw h'' tk' F'' (fun p hp => a p ?_) l1 l2 hP
    rcases List.mem_append.mp hp with hp | hp
    · exact List.mem_append_right _ hp
    · exact List.mem_append_left _ hp
theorem stored_to {o : Obj} {kvs : List (Str × Value)} {name : Str} {v : Value} (h : (kvs.any fun kv => decide (kv.1 = name)) = false) (hd : o.IsDictOf (sK w) (stored kvs name v)) : o.IsDictOf (sK w) (kvs ++ [(name, v)]) := by
  rw [← stored_app h]; exact hd
/-- what «Marks.__init__» leaves -/
noncomputable def MarksMade (w : World) (ch so : Value) (x dx : Addr) (nw : List (Addr × Obj)) : Prop :=
  ∀ C : Prop, (∀ (aG aA aW : Addr) (kg ka kk : Nat) (od : Obj) (t : Tok), nw = [(aW, PySem.W.listOf #[] kk), (aA, PySem.W.listOf #[] ka), (aG, PySem.W.listOf #[] kg), (x, instObj 136 dx), (dx, od)] → x < aG → aG < aA → aA < aW →
    od.IsDictOf (sK w) [(S "children", ch), (S "sort_of", so), (S "white", .int 0 t), (S "grey", .ref aG), (S "grey_again", .ref aA), (S "weak", .ref aW)] → C) → C
theorem said_54 : True := by
  k_with "setAttr ref" => ((fail_if_success k_extra "m_off14"); (k_here; k_dflt (refine' setA ?zqF ?zqX ?zqN ?zqk1 ?zqu1 ?zqhd ?zqi1 ?zqi2 ?zqi3 ?zqi4 ?zqhz ?_; (k_extra "m_s"); (case zqhd => (first | assumption | exact empty_isDict)); (case zqhz => exact Nat.le_of_ble_eq_true rfl); k_whole; intro h' o' F' N' hd'; (replace hd' := stored_to (by kernel_rfl) hd'); (dsimp only [List.cons_append, List.nil_append] at hd'); (try dsimp only at N'); (try k_sweep))))
  k_with "call ref" => ((fail_if_success k_extra "m_off14"); ((with_reducible refine' hold_in [136] ?zqr ?_); (case zqr => decide)))
  trivial
theorem marks_init_spec {ch so x dx : Addr} (hx : dx < x) :
    Runs w 42 [.ref x, .ref ch, .ref so] 20 200 [(x, instObj 136 dx), (dx, dictOf [] 0)] (fun v nw => v = .none ∧ MarksMade w (.ref ch) (.ref so) x dx nw) := by
  have hne : @Ne Nat dx x := Nat.ne_of_lt hx
  have hne2 : @Ne Nat x dx := Nat.ne_of_gt hx
  (k_extra "m_enter")
  k_steps
  (try dsimp only)
  (with_reducible rename News _ _ _ _ => N9)
  (with_reducible rename Obj.IsDictOf _ _ [_, _, _, _, _, _] => hd9)
  (with_reducible rename (_ ∧ _ ∧ _ ∧ _) => l9)
  (with_reducible rename (_ ∧ _ ∧ @LT.lt Nat _ _ _) => l8)
  (with_reducible rename (_ ∧ @LT.lt Nat _ _ _) => l7)
  exact Done.intro (by k_asm) N9 ⟨rfl, fun C k => k _ _ _ _ _ _ _ _ rfl l7.1 l8.1 l9.1 hd9⟩
/-- what «Cycle.__init__» leaves -/
noncomputable def CycleMade (w : World) (ch so : Value) (x dx : Addr) (nw : List (Addr × Obj)) : Prop :=
  ∀ C : Prop, (∀ (aO aMD aM aG aA aW aR aS : Addr) (kg ka kk kr ks : Nat) (oC oO oM : Obj) (t0 t1 t2 t3 t4 t5 t6 t7 t8 t9 tw : Tok), nw = [(aS, PySem.W.listOf #[] ks), (aR, PySem.W.listOf #[] kr), (aW, PySem.W.listOf #[] kk), (aA, PySem.W.listOf #[] ka), (aG, PySem.W.listOf #[] kg), (aM, instObj 136 aMD), (aMD, oM), (aO, oO), (x, instObj 346 dx), (dx, oC)] → x < aO → aO < aMD → aMD < aM → aM < aG → aG < aA → aA < aW → aW < aR → aR < aS → oO.IsDictOf (iK w) [] → oC.IsDictOf (sK w) [(S "objects", .ref aO), (S "marks", .ref aM), (S "root_list", .ref aR), (S "phase", .int 0 t0), (S "to_sweep", .ref aS), (S "total", .int 0 t1), (S "estimate", .int 0 t2), (S "debt", .int 0 t3), (S "step_size", .int 64 t4), (S "sweep_max", .int 16 t5), (S "threshold", .int (4 * 64) t6), (S "pause", .int 200 t7), (S "step_mul", .int 200 t8), (S "cycles", .int 0 t9)] → oM.IsDictOf (sK w) [(S "children", ch), (S "sort_of", so), (S "white", .int 0 tw), (S "grey", .ref aG), (S "grey_again", .ref aA), (S "weak", .ref aW)] → C) → C
theorem CycleMade.elim {ch so : Value} {x dx : Addr} {nw : List (Addr × Obj)} {C : Prop} (h : CycleMade w ch so x dx nw)
    (k : ∀ (aO aMD aM aG aA aW aR aS : Addr) (kg ka kk kr ks : Nat) (oC oO oM : Obj) (t0 t1 t2 t3 t4 t5 t6 t7 t8 t9 tw : Tok), nw = [(aS, PySem.W.listOf #[] ks), (aR, PySem.W.listOf #[] kr), (aW, PySem.W.listOf #[] kk), (aA, PySem.W.listOf #[] ka), (aG, PySem.W.listOf #[] kg), (aM, instObj 136 aMD), (aMD, oM), (aO, oO), (x, instObj 346 dx), (dx, oC)] → x < aO → aO < aMD → aMD < aM → aM < aG → aG < aA → aA < aW → aW < aR → aR < aS → oO.IsDictOf (iK w) [] → oC.IsDictOf (sK w) [(S "objects", .ref aO), (S "marks", .ref aM), (S "root_list", .ref aR), (S "phase", .int 0 t0), (S "to_sweep", .ref aS), (S "total", .int 0 t1), (S "estimate", .int 0 t2), (S "debt", .int 0 t3), (S "step_size", .int 64 t4), (S "sweep_max", .int 16 t5), (S "threshold", .int (4 * 64) t6), (S "pause", .int 200 t7), (S "step_mul", .int 200 t8), (S "cycles", .int 0 t9)] → oM.IsDictOf (sK w) [(S "children", ch), (S "sort_of", so), (S "white", .int 0 tw), (S "grey", .ref aG), (S "grey_again", .ref aA), (S "weak", .ref aW)] → C) : C := h C k
theorem cycle_init_spec {ch so x dx : Addr} (hx : dx < x) :
    Runs w 182 [.ref x, .ref ch, .ref so] 60 600 [(x, instObj 346 dx), (dx, dictOf [] 0)] (fun v nw => v = .none ∧ CycleMade w (.ref ch) (.ref so) x dx nw) := by
  have hne : @Ne Nat dx x := Nat.ne_of_lt hx
  have hne2 : @Ne Nat x dx := Nat.ne_of_gt hx
  (k_extra "m_enter")
  k_steps
  unfold Hold
  (try k_fold)
  refine' Runs.makeN (fun x dx hx => marks_init_spec hx) ?B ?F ?X ?N ?T ?hm ?hi ?hfn ?hA ?hf ?hk ?hh ?hd ?hu ?_
  (case B => k_asm)
  (case F => k_asm)
  (case X => k_asm)
  (case N => k_asm)
  (case T => k_asm)
  (case hm => k_is)
  (case hi => k_is)
  (case hfn => k_is)
  (case hA => exact rfl)
  (case hf => exact rfl)
  (case hk => exact rfl)
  (case hh => exact rfl)
  (case hd => (k_extra "m_room"))
  (case hu => (k_extra "m_units"))
  intro xm dm nw hm tkm Fm Nm l1 l2 hP
  refine hP _ ?_
  clear hP
  rintro aG aA aW kg ka kk oM tM rfl m1 m2 m3 hM
  (try dsimp only [List.cons_append, List.nil_append] at Nm)
  k_lt l1
  have j1 := Nat.lt_trans l2 m1
  have j2 := Nat.lt_trans j1 m2
  have j3 := Nat.lt_trans j2 m3
  have q1 : @Ne Nat aG dx := Nat.ne_of_gt (Nat.lt_trans l1.2.2 j1)
  have q2 : @Ne Nat aA dx := Nat.ne_of_gt (Nat.lt_trans l1.2.2 j2)
  have q3 : @Ne Nat aW dx := Nat.ne_of_gt (Nat.lt_trans l1.2.2 j3)
  have q4 : @Ne Nat xm dx := Nat.ne_of_gt (Nat.lt_trans l1.2.2 l2)
  have q5 : @Ne Nat dm dx := Nat.ne_of_gt l1.2.2
  (try dsimp only)
  k_steps
  (try dsimp only)
  (with_reducible rename News _ _ _ _ => N9)
  (with_reducible rename Obj.IsDictOf _ _ [(Str.ofString "objects", _), _, _, _, _, _, _, _, _, _, _, _, _, _] => hC)
  (with_reducible rename Obj.IsDictOf (iK _) _ [] => hO)
  (with_reducible rename (@LT.lt Nat _ _ _ ∧ _) => l9)
  (with_reducible rename (@LT.lt Nat _ aW _ ∧ _) => l8)
  (with_reducible rename (@LT.lt Nat _ x _ ∧ _) => l7)
  exact Done.intro (by k_asm) N9 ⟨rfl, fun C k => k _ _ _ _ _ _ _ _ _ _ _ _ _ _ _ _ _ _ _ _ _ _ _ _ _ _ _ rfl l7.1 l1.1 l2 m1 m2 m3 l8.1 l9.1 hO hC hM⟩
end

section
open PySem PySem.W PySem.Calls PyProof.Rows PyProof.Rows.LCg PyProof.Rows.LCt
/-- addresses that rise -/
noncomputable def Asc : List Nat → Prop
  | a :: b :: l => a < b ∧ Asc (b :: l)
  | _ => True
theorem said_55 : True := by
  k_with "m_off14" => (skip)
  trivial
theorem Asc.tail {a : Nat} : ∀ {l : List Nat}, Asc (a :: l) → Asc l
  | [], _ => trivial
  | _ :: _, h => h.2
theorem Asc.head {a : Nat} : ∀ {l : List Nat}, Asc (a :: l) → ∀ x ∈ l, a < x
  | [], _, _, h => nomatch h
  | b :: l, h, x, hx => by
    rcases List.mem_cons.mp hx with rfl | hx
    · exact h.1
    · exact Nat.lt_trans h.1 (Asc.head h.2 x hx)
theorem Asc.get : ∀ {l : List Nat} {i j : Nat} {a b : Nat}, Asc l → l[i]? = some a → l[j]? = some b → i < j → a < b
  | [], _, _, _, _, _, h, _, _ => by simp at h
  | c :: l, i, j, a, b, h, hi, hj, hij => by
    cases j with
    | zero => (first | lia | omega)
    | succ j =>
      cases i with
      | zero =>
        have e : c = a := by simpa using hi
        subst e
        have hj : l[j]? = some b := by simpa using hj
        exact Asc.head h b (List.mem_of_getElem? hj)
      | succ i => exact Asc.get (Asc.tail h) (by simpa using hi) (by simpa using hj) (by (first | lia | omega))
theorem Asc.inj {l : List Nat} {i j a : Nat} (h : Asc l) (hi : l[i]? = some a) (hj : l[j]? = some a) : i = j := by
  rcases Nat.lt_trichotomy i j with h1 | h1 | h1
  · exact absurd (Asc.get h hi hj h1) (Nat.lt_irrefl _)
  · exact h1
  · exact absurd (Asc.get h hj hi h1) (Nat.lt_irrefl _)
noncomputable def rank : Role → Nat
  | .cell => 0 | .cells => 1 | .gut => 2 | .world => 3 | .all => 4 | .edges => 5 | .sorts => 6 | .freed => 7 | .fchC => 8 | .fch => 9 | .fsoC => 10 | .fso => 11 | .cycD => 12 | .cyc => 13 | .objs => 14 | .marksD => 15 | .marks => 16 | .grey => 17 | .again => 18 | .weak => 19 | .roots => 20 | .sweep => 21 | _ => 22
theorem rank_inj : ∀ r ∈ baseRoles, ∀ r' ∈ baseRoles, rank r = rank r' → r = r' := by decide
theorem ok_base {r : Role} (h : r.ok 0) : r ∈ baseRoles := by
  have := mem_roles.mpr h
  simpa [roles] using this
/-- the first state -/
noncomputable def st0 (thr : Int) (cells : List Int) : St := { n := 0, sort := fun _ => 0, size := fun _ => 0, mark := fun _ => 0, edges := fun _ => [], live := [], freed := [], grey := [], again := [], roots := [], sweep := [], white := 0, phase := 0, total := 0, est := 0, debt := 0, thr := thr, cycles := 0, turn := 0, cells := cells, ps := 0, pe := 0 }
section
variable {w : World} {h₀ h : Heap} {L : Addr}
theorem good0 {C : Prop} {aCell aCells aGut aWorld aAll aEdges aSorts aFreed aFchC aFch aFsoC aFso aCycD aCyc aObjs aMarksD aMarks aGrey aAgain aWeak aRoots aSweep : Nat} {oCell oWorld oAll oEdges oSorts oFchC oFch oFsoC oFso oCycD oObjs oMarksD : Obj} {cs : List Value} {ns : List Int} {thr : Int} {t0 t1 t2 t3 t4 t5 t6 t7 t8 t9 tw tg : Tok} {kf kg ka kk kr ksw kgt kc : Nat}
    (hA : Asc [aCell, aCells, aGut, aWorld, aAll, aEdges, aSorts, aFreed, aFchC, aFch, aFsoC, aFso, aCycD, aCyc, aObjs, aMarksD, aMarks, aGrey, aAgain, aWeak, aRoots, aSweep]) (h1 : 1 < aCell)
    (N : News h₀ L h [(aWorld, oWorld), (aAll, oAll), (aEdges, oEdges), (aSorts, oSorts), (aFreed, PySem.W.listOf #[] kf), (aCyc, instObj 346 aCycD), (aCycD, oCycD), (aObjs, oObjs), (aMarks, instObj 136 aMarksD), (aMarksD, oMarksD), (aGrey, PySem.W.listOf #[] kg), (aAgain, PySem.W.listOf #[] ka), (aWeak, PySem.W.listOf #[] kk), (aRoots, PySem.W.listOf #[] kr), (aSweep, PySem.W.listOf #[] ksw), (aFch, oFch), (aFso, oFso), (aFchC, oFchC), (aFsoC, oFsoC), (aCell, oCell), (aGut, PySem.W.listOf #[.ref aCells, .int 0 tg] kgt), (aCells, PySem.W.listOf cs.toArray kc)])
    (hW : oWorld.IsDictOf (sK w) [(S "all", .ref aAll), (S "edges", .ref aEdges), (S "sorts", .ref aSorts), (S "freed", .ref aFreed), (S "cycle", .ref aCyc)])
    (hAl : oAll.IsDictOf (iK w) []) (hEd : oEdges.IsDictOf (iK w) []) (hSo : oSorts.IsDictOf (iK w) []) (hOb : oObjs.IsDictOf (iK w) [])
    (hC : oCycD.IsDictOf (sK w) [(S "objects", .ref aObjs), (S "marks", .ref aMarks), (S "root_list", .ref aRoots), (S "phase", .int 0 t0), (S "to_sweep", .ref aSweep), (S "total", .int 0 t1), (S "estimate", .int 0 t2), (S "debt", .int 0 t3), (S "step_size", .int 64 t4), (S "sweep_max", .int 16 t5), (S "threshold", .int thr t6), (S "pause", .int 200 t7), (S "step_mul", .int 200 t8), (S "cycles", .int 0 t9)])
    (hM : oMarksD.IsDictOf (sK w) [(S "children", .ref aFch), (S "sort_of", .ref aFso), (S "white", .int 0 tw), (S "grey", .ref aGrey), (S "grey_again", .ref aAgain), (S "weak", .ref aWeak)])
    (hI : IntsAre cs ns)
    (k : ∀ (α : Role → Addr) (ω : Role → Obj) (ο δ : Nat → Addr) (μ : Role → Addr) (σ : Role → Obj), Good w α ω ο δ μ σ (st0 thr ns) → News h₀ L h (ledW α ο δ μ σ (st0 thr ns)) → (∀ p ∈ ledW α ο δ μ σ (st0 thr ns), aCell ≤ p.1) →
      ω .fch = oFch → ω .fso = oFso → ω .fchC = oFchC → ω .fsoC = oFsoC → ω .cell = oCell → aWorld = α .world → aGut = α .gut → aCyc = α .cyc → aFch = α .fch → aFso = α .fso → aFchC = α .fchC → aFsoC = α .fsoC → aCell = α .cell → C) : C := by
  let α : Role → Addr := fun r => match r with
    | .world => aWorld | .all => aAll | .edges => aEdges | .sorts => aSorts | .cyc => aCyc | .cycD => aCycD | .objs => aObjs | .marks => aMarks | .marksD => aMarksD | .roots => aRoots | .fch => aFch | .fso => aFso | .fchC => aFchC | .fsoC => aFsoC | .cell => aCell | .gut => aGut | .cells => aCells | _ => 0
  let μ : Role → Addr := fun r => match r with
    | .freed => aFreed | .grey => aGrey | .again => aAgain | .weak => aWeak | .sweep => aSweep | _ => 0
  let σ : Role → Obj := fun r => match r with
    | .world => oWorld | .all => oAll | .edges => oEdges | .sorts => oSorts | .freed => PySem.W.listOf #[] kf | .cyc => instObj 346 aCycD | .cycD => oCycD | .objs => oObjs | .marks => instObj 136 aMarksD | .marksD => oMarksD | .grey => PySem.W.listOf #[] kg | .again => PySem.W.listOf #[] ka | .weak => PySem.W.listOf #[] kk | .roots => PySem.W.listOf #[] kr | .sweep => PySem.W.listOf #[] ksw | .fch => oFch | .fso => oFso | .fchC => oFchC | .fsoC => oFsoC | .cell => oCell | .gut => PySem.W.listOf #[.ref aCells, .int 0 tg] kgt | .cells => PySem.W.listOf cs.toArray kc | _ => oCell
  let as : List Nat := [aCell, aCells, aGut, aWorld, aAll, aEdges, aSorts, aFreed, aFchC, aFch, aFsoC, aFso, aCycD, aCyc, aObjs, aMarksD, aMarks, aGrey, aAgain, aWeak, aRoots, aSweep]
  let τ : Nat → Tok := fun i => match i with | 0 => t0 | 1 => t1 | 2 => t2 | 3 => t3 | 4 => t4 | 5 => t5 | 6 => t6 | 7 => t7 | 8 => t8 | _ => t9
  have hget : ∀ r, Role.ok 0 r → as[rank r]? = some (adr α (fun _ => 0) (fun _ => 0) μ r) := fun r hr => by
    cases r <;> first | rfl | (rename_i i; exact absurd (Nat.le_trans (show 1 ≤ i ∧ i ≤ 0 from hr).1 (show 1 ≤ i ∧ i ≤ 0 from hr).2) (by decide))
  have hlo : ∀ r, Role.ok 0 r → aCell ≤ adr α (fun _ => 0) (fun _ => 0) μ r := fun r hr => by
    have h2 := hget r hr
    by_cases e : rank r = 0
    · rw [e] at h2
      exact Nat.le_of_eq (Option.some.inj h2)
    · exact Nat.le_of_lt (Asc.get hA (show as[0]? = some aCell from rfl) h2 (Nat.pos_of_ne_zero e))
  refine k α σ (fun _ => 0) (fun _ => 0) μ σ ⟨?_, ?_, ?_⟩ N ?_ rfl rfl rfl rfl rfl rfl rfl rfl rfl rfl rfl rfl rfl
  · intro r r' hr hr' e
    have h2 := hget r hr
    have h3 := hget r' hr'
    rw [← e] at h3
    exact rank_inj r (ok_base hr) r' (ok_base hr') (Asc.inj hA h2 h3)
  · intro r hr
    exact Nat.lt_of_lt_of_le h1 (hlo r hr)
  · intro r hr
    cases r with
    | world => exact hW
    | all => exact hAl
    | edges => exact hEd
    | sorts => exact ⟨[], hSo, .nil⟩
    | freed => exact ⟨[], ⟨kf, rfl⟩, .nil⟩
    | cyc => rfl
    | cycD => exact ⟨τ, hC⟩
    | objs => exact hOb
    | marks => rfl
    | marksD => exact ⟨fun _ => tw, hM⟩
    | grey => exact ⟨kg, rfl⟩
    | again => exact ⟨ka, rfl⟩
    | weak => exact ⟨kk, rfl⟩
    | roots => exact ⟨rfl, kr, rfl⟩
    | sweep => exact ⟨[], ⟨ksw, rfl⟩, .nil⟩
    | fch => rfl
    | fso => rfl
    | fchC => rfl
    | fsoC => rfl
    | cell => rfl
    | gut => exact ⟨tg, kgt, rfl⟩
    | cells => exact ⟨cs, ⟨kc, rfl⟩, hI⟩
    | obj i => exact absurd (Nat.le_trans (show 1 ≤ i ∧ i ≤ 0 from hr).1 (show 1 ≤ i ∧ i ≤ 0 from hr).2) (by decide)
    | objD i => exact absurd (Nat.le_trans (show 1 ≤ i ∧ i ≤ 0 from hr).1 (show 1 ≤ i ∧ i ≤ 0 from hr).2) (by decide)
    | edge i => exact absurd (Nat.le_trans (show 1 ≤ i ∧ i ≤ 0 from hr).1 (show 1 ≤ i ∧ i ≤ 0 from hr).2) (by decide)
  · intro p hp
    obtain ⟨r, hr, rfl⟩ := of_led hp
    exact hlo r hr
theorem good1E {C : Prop} {aCell aCells aGut aWorld aAll aEdges aSorts aFreed aFchC aFch aFsoC aFso aCycD aCyc aObjs aMarksD aMarks aGrey aAgain aWeak aRoots aSweep aTup : Nat} {oCell oWorld oAll oEdges oSorts oFchC oFch oFsoC oFso oCycD oObjs oMarksD oTup : Obj} {pz : Array Value} {cs : List Value} {ns : List Int} {thr : Int} {t0 t1 t2 t3 t4 t5 t6 t7 t8 t9 tw tg : Tok} {kf kg ka kk kr ksw kgt kc : Nat}
    (N : News h₀ L h [(aSweep, PySem.W.listOf #[] ksw), (aRoots, PySem.W.listOf #[] kr), (aWeak, PySem.W.listOf #[] kk), (aAgain, PySem.W.listOf #[] ka), (aGrey, PySem.W.listOf #[] kg), (aMarks, instObj 136 aMarksD), (aMarksD, oMarksD), (aObjs, oObjs), (aCyc, instObj 346 aCycD), (aCycD, oCycD), (aFso, oFso), (aFsoC, oFsoC), (aFch, oFch), (aFchC, oFchC), (aTup, oTup), (aFreed, PySem.W.listOf #[] kf), (aSorts, oSorts), (aEdges, oEdges), (aAll, oAll), (aWorld, oWorld), (aGut, PySem.W.listOf #[.ref aCells, .int 0 tg] kgt), (aCells, PySem.W.listOf cs.toArray kc), (aCell, oCell), (428, tabObj pz)])
    (hA : Asc [aCell, aCells, aGut, aWorld, aAll, aEdges, aSorts, aFreed, aFchC, aFch, aFsoC, aFso, aCycD, aCyc, aObjs, aMarksD, aMarks, aGrey, aAgain, aWeak, aRoots, aSweep]) (h1 : 428 < aCell)
    (hW : oWorld.IsDictOf (sK w) [(S "all", .ref aAll), (S "edges", .ref aEdges), (S "sorts", .ref aSorts), (S "freed", .ref aFreed), (S "cycle", .ref aCyc)])
    (hAl : oAll.IsDictOf (iK w) []) (hEd : oEdges.IsDictOf (iK w) []) (hSo : oSorts.IsDictOf (iK w) []) (hOb : oObjs.IsDictOf (iK w) [])
    (hC : oCycD.IsDictOf (sK w) [(S "objects", .ref aObjs), (S "marks", .ref aMarks), (S "root_list", .ref aRoots), (S "phase", .int 0 t0), (S "to_sweep", .ref aSweep), (S "total", .int 0 t1), (S "estimate", .int 0 t2), (S "debt", .int 0 t3), (S "step_size", .int 64 t4), (S "sweep_max", .int 16 t5), (S "threshold", .int thr t6), (S "pause", .int 200 t7), (S "step_mul", .int 200 t8), (S "cycles", .int 0 t9)])
    (hM : oMarksD.IsDictOf (sK w) [(S "children", .ref aFch), (S "sort_of", .ref aFso), (S "white", .int 0 tw), (S "grey", .ref aGrey), (S "grey_again", .ref aAgain), (S "weak", .ref aWeak)])
    (hI : IntsAre cs ns)
    (k : ∀ (α : Role → Addr) (ω : Role → Obj) (ο δ : Nat → Addr) (μ : Role → Addr) (σ : Role → Obj) (pz' : Array Value), Good w α ω ο δ μ σ (st0 thr ns) → News h₀ L h ((428, tabObj pz') :: ledW α ο δ μ σ (st0 thr ns)) → Off [(428, tabObj pz')] (ledW α ο δ μ σ (st0 thr ns)) →
      ω .fch = oFch → ω .fso = oFso → ω .fchC = oFchC → ω .fsoC = oFsoC → ω .cell = oCell → aWorld = α .world → aGut = α .gut → aCyc = α .cyc → aFch = α .fch → aFso = α .fso → aFchC = α .fchC → aFsoC = α .fsoC → aCell = α .cell → C) : C := by
  refine good0 (w := w) (h₀ := h₀) (h := h) (L := L) (kf := kf) (kg := kg) (ka := ka) (kk := kk) (kr := kr) (ksw := ksw) (kgt := kgt) (tg := tg) (kc := kc) (oFch := oFch) (oFso := oFso) (oFchC := oFchC) (oFsoC := oFsoC) (oCell := oCell) hA (Nat.lt_trans (by decide) h1) (News.sub N (by
    repeat' (first | exact List.forall_mem_nil _ | refine List.forall_mem_cons.mpr ⟨by (repeat (first | exact List.Mem.head _ | refine List.Mem.tail _ ?_)), ?_⟩))) hW hAl hEd hSo hOb hC hM hI ?_
  intro α ω ο δ μ σ G NG hlo w1 w2 w3 w4 w5 a1 a2 a3 a4 a5 a6 a7 a8
  refine k α ω ο δ μ σ pz G (fun p hp => ?_) (fun p hp hq => ?_) w1 w2 w3 w4 w5 a1 a2 a3 a4 a5 a6 a7 a8
  · rcases List.mem_cons.mp hp with rfl | hp
    · exact N _ (by (repeat (first | exact List.Mem.head _ | refine List.Mem.tail _ ?_)))
    · exact NG p hp
  · rw [List.mem_singleton.mp hp] at hq
    obtain ⟨q, hq, e⟩ := List.mem_map.mp hq
    exact absurd e (Nat.ne_of_gt (Nat.lt_of_lt_of_le h1 (hlo q hq)))
end
end

section
open PySem PySem.W PySem.Calls PyProof.Rows PyProof.Rows.LCg PyProof.Rows.LCt
section
variable {w : World} {A : Around} {E : Value → Shared → Prop} {s : Shared} {K : Frag} {L : Addr} {h₀ h : Heap} {m : Str → Option Value} {news tmp : List (Addr × Obj)} {name : Str}
  {α : Role → Addr} {ω : Role → Obj} {ο δ : Nat → Addr} {μ : Role → Addr} {σ : Role → Obj} {st : St}
theorem adr_roots (l : Addr) : adr (upd α .roots l) ο δ μ = upd (adr α ο δ μ) .roots l := by
  funext r
  cases r <;> first | rfl | skip
theorem Good.rootsTo {l : Addr} {o od : Obj} (G : Good w α ω ο δ μ σ st) (hlt : ∀ x, Role.ok st.n x → adr α ο δ μ x < l) (hr : IsLO o (refs ο [1])) (hd : ∃ τ, od.IsDictOf (sK w) (cycKV (upd α .roots l) μ (st.setRoots [1]) τ)) :
    Good w (upd α .roots l) (upd ω .roots o) ο δ μ (upd (upd σ .cycD od) .roots o) (st.setRoots [1]) where
  inj := by
    show Inj _ st.n
    rw [adr_roots]
    intro a b ha hb e
    by_cases ea : a = .roots
    · by_cases eb : b = .roots
      · rw [ea, eb]
      · rw [ea, upd_self, upd_ne _ _ eb] at e
        exact absurd e (Nat.ne_of_gt (hlt b hb))
    · by_cases eb : b = .roots
      · rw [eb, upd_self, upd_ne _ _ ea] at e
        exact absurd e (Nat.ne_of_lt (hlt a ha))
      · rw [upd_ne _ _ ea, upd_ne _ _ eb] at e
        exact G.inj a b ha hb e
  lo := by
    intro a ha
    have ha : Role.ok st.n a := ha
    rw [adr_roots]
    by_cases ea : a = .roots
    · rw [ea, upd_self]; exact Nat.lt_trans (G.lo .cyc trivial) (hlt .cyc trivial)
    · rw [upd_ne _ _ ea]; exact G.lo a ha
  sh := fun x hx => by
    have hx : Role.ok st.n x := hx
    by_cases e : x = .roots
    · subst e
      rw [upd_self]
      exact ⟨(upd_self ω .roots o).symm, hr⟩
    · rw [upd_ne _ _ e]
      by_cases e2 : x = .cycD
      · subst e2; rw [upd_self]; exact hd
      · rw [upd_ne _ _ e2]
        have hS := G.sh x hx
        cases x <;> first | exact hS | exact absurd rfl e | exact absurd rfl e2
/-- «cycle.root_list = [first]» -/
theorem set_roots {l : Addr} {k : Nat} {Q : Unit → Shared → Prop} (F : Fr h₀ L s.heap m) (X₀ : K.In h₀) (N : News h₀ L s.heap ((l, PySem.W.listOf #[.ref (ο 1)] k) :: tmp ++ ledW α ο δ μ σ st)) (hlt : ∀ p ∈ tmp ++ ledW α ο δ μ σ st, p.1 < l) (off : Off tmp (ledW α ο δ μ σ st)) (G : Good w α ω ο δ μ σ st)
    (hs : findIn K (.ref 346) "__setattr__" = some (some (.builtin "object.__setattr__"))) (hp : plainOver K 346 = true) (ht : takerIn K 346 "root_list" = some none) (hh : hasDictIn K 346 = true)
    (h : ∀ h' σ' o, Fr h₀ L h' m → News h₀ L h' (tmp ++ ledW (upd α .roots l) ο δ μ σ' (st.setRoots [1])) → Off tmp (ledW (upd α .roots l) ο δ μ σ' (st.setRoots [1])) → Good w (upd α .roots l) (upd ω .roots o) ο δ μ σ' (st.setRoots [1]) → Q () { s with heap := h', toks := s.toks + 2 }) :
    wpAny (model PP w) A (setAttr (.ref (α .cyc)) "root_list" (.ref l)) Q E s := by
  obtain ⟨τ, hd⟩ := G.sh .cycD trivial
  have hlw : ∀ p ∈ ledW α ο δ μ σ st, p.1 < l := fun p hp => hlt p (List.mem_append_right _ hp)
  have hlt' : ∀ x, Role.ok st.n x → adr α ο δ μ x < l := fun x hx => hlw _ (mem_led hx)
  have off' : Off ((l, PySem.W.listOf #[.ref (ο 1)] k) :: tmp) (ledW α ο δ μ σ st) := fun p hp => by
    rcases List.mem_cons.mp hp with rfl | hp
    · exact off_new hlw _ (.head _)
    · exact off p hp
  refine set_cycD (tmp := (l, PySem.W.listOf #[.ref (ο 1)] k) :: tmp) F X₀ N off' G hd hs hp ht hh fun h' o' F' N' hd' => ?_
  have e1 : stored (cycKV α μ st τ) (Str.ofString "root_list") (.ref l) = cycKV (upd α .roots l) μ (st.setRoots [1]) τ := rfl
  rw [e1] at hd'
  refine h h' (upd (upd σ .cycD o') .roots (PySem.W.listOf #[.ref (ο 1)] k)) (PySem.W.listOf #[.ref (ο 1)] k) F' (News.sub N' ?_) ?_ (G.rootsTo hlt' ⟨k, rfl⟩ ⟨τ, hd'⟩)
  · show ∀ p ∈ tmp ++ led (adr (upd α .roots l) ο δ μ) _ st.n, _
    rw [adr_roots]; exact news_move (σ := σ)
  · show Off tmp (led (adr (upd α .roots l) ο δ μ) _ st.n)
    rw [adr_roots]; exact off_move off fun p hp => hlt p (List.mem_append_left _ hp)
end
theorem ini0 (thr : Int) (cells : List Int) : Ini (st0 thr cells) :=
  ⟨Nat.zero_le _, rfl, rfl, rfl, rfl, rfl, rfl, rfl, rfl, rfl, fun _ _ => rfl, fun _ _ => .inl rfl, fun i hi => by have h1 := hi.1; have h2 : i ≤ 0 := hi.2; (first | lia | omega), fun _ _ _ h => (nomatch h), fun i hi => by have h1 := hi.1; have h2 : i ≤ 0 := hi.2; (first | lia | omega)⟩
/-- the closures' list -/
theorem refs_of_paired_at {f : Nat → Addr} {l : List Nat} : ∀ {is : List Nat} {ys : List Value}, Paired (fun i y => ∃ j, l[i]? = some j ∧ y = Value.ref (f j)) is ys → ys = is.map fun i => Value.ref (f (l.getD i 0))
  | [], _, h => by cases h; rfl
  | i :: is, _, h => by
    cases h with
    | cons h1 h2 =>
      obtain ⟨j, hj, rfl⟩ := h1
      rw [List.map_cons, ← refs_of_paired_at h2]
      have : l.getD i 0 = j := by rw [List.getD_eq_getElem?_getD, hj]; rfl
      rw [this]
theorem refs_of_paired {f : Nat → Addr} {l : List Nat} {ys : List Value} (h : Paired (fun i y => ∃ j, l[i]? = some j ∧ y = Value.ref (f j)) (List.range l.length) ys) : ys = refs f l := by
  rw [refs_of_paired_at h]
  unfold refs
  refine List.ext_getElem (by simp) fun i h1 h2 => ?_
  have hi : i < l.length := by simpa using h1
  simp [List.getD_eq_getElem?_getD, List.getElem?_eq_getElem hi]
section
variable {w : World} {α : Role → Addr} {ω : Role → Obj} {ο δ : Nat → Addr} {μ : Role → Addr} {σ : Role → Obj} {st : St} {o : Obj} {a : Addr}
theorem led_fso (G : Good w α ω ο δ μ σ st) (h : ω .fso = o) (ha : α .fso = a) : (a, o) ∈ ledW α ο δ μ σ st := by
  have := mem_led (β := adr α ο δ μ) (σ := σ) (n := st.n) (r := .fso) trivial
  rw [show σ .fso = _ from G.sh .fso trivial, h] at this; rw [← ha]; exact this
theorem led_fsoC (G : Good w α ω ο δ μ σ st) (h : ω .fsoC = o) (ha : α .fsoC = a) : (a, o) ∈ ledW α ο δ μ σ st := by
  have := mem_led (β := adr α ο δ μ) (σ := σ) (n := st.n) (r := .fsoC) trivial
  rw [show σ .fsoC = _ from G.sh .fsoC trivial, h] at this; rw [← ha]; exact this
theorem led_fch (G : Good w α ω ο δ μ σ st) (h : ω .fch = o) (ha : α .fch = a) : (a, o) ∈ ledW α ο δ μ σ st := by
  have := mem_led (β := adr α ο δ μ) (σ := σ) (n := st.n) (r := .fch) trivial
  rw [show σ .fch = _ from G.sh .fch trivial, h] at this; rw [← ha]; exact this
theorem led_fchC (G : Good w α ω ο δ μ σ st) (h : ω .fchC = o) (ha : α .fchC = a) : (a, o) ∈ ledW α ο δ μ σ st := by
  have := mem_led (β := adr α ο δ μ) (σ := σ) (n := st.n) (r := .fchC) trivial
  rw [show σ .fchC = _ from G.sh .fchC trivial, h] at this; rw [← ha]; exact this
theorem led_cell (G : Good w α ω ο δ μ σ st) (h : ω .cell = o) (ha : α .cell = a) : (a, o) ∈ ledW α ο δ μ σ st := by
  have := mem_led (β := adr α ο δ μ) (σ := σ) (n := st.n) (r := .cell) trivial
  rw [show σ .cell = _ from G.sh .cell trivial, h] at this; rw [← ha]; exact this
end
theorem up3 {β : Type} {p a b c : β} {l : List β} (h : p ∈ l) : p ∈ a :: b :: c :: l := .tail _ (.tail _ (.tail _ h))
theorem off_turn {I : Addr} {io : Obj} {t : Addr × Obj} {l : List (Addr × Obj)} (h : t.1 ≠ I) (off : Off [(I, io), t] l) : ∀ p ∈ t :: l, p.1 ≠ I := fun p hp => by
  rcases List.mem_cons.mp hp with rfl | hp
  · exact h
  · exact fun e => off _ (.head _) (e ▸ List.mem_map.mpr ⟨p, hp, rfl⟩)
theorem off_tl {a t : Addr × Obj} {l : List (Addr × Obj)} (off : Off [a, t] l) : Off [t] l := fun p hp => off p (.tail _ hp)
section
variable {w : World} {A : Around} {E : Value → Shared → Prop} {s : Shared} {L : Addr} {h₀ h : Heap} {m : Str → Option Value} {news tmp : List (Addr × Obj)}
  {α : Role → Addr} {ω : Role → Obj} {ο δ : Nat → Addr} {μ : Role → Addr} {σ : Role → Obj} {st : St} {value slice : PySem.Expr} {t : Tok} {Q : Value → Shared → Prop}
theorem item_all1 (G : Good w α ω ο δ μ σ st) (N : News h₀ L s.heap news) (hs : ∀ p ∈ ledW α ο δ μ σ st, p ∈ news) (hi : 1 ≤ st.n) (h : Q (.ref (ο 1)) { s with toks := s.toks + 1 })
    (hs1 : subscripted slice false (.ref (α .all)) (.int 1 t) = operate [.ref (α .all), .int 1 t] (getItem (.ref (α .all)) (.int 1 t)) := by with_unfolding_all rfl) (hg : ∀ r, letTemporaryGo value (.ref (α .all)) r = pure () := by intro _; with_unfolding_all rfl) :
    wpAny (model PP w) A (subscriptTail value slice (.ref (α .all)) (.int 1 t)) Q E s := item_all (i := 1) G N hs ⟨Nat.le_refl _, hi⟩ h hs1 hg
end
theorem perm_of_reach {E : Nat → List Nat} {a b : List Nat} (ha : a.Nodup) (hb : b.Nodup) (h1 : ∀ j, j ∈ a ↔ Reach E j) (h2 : ∀ j, j ∈ b ↔ Reach E j) : a.Perm b :=
  (List.perm_ext_iff_of_nodup ha hb).mpr fun j => (h1 j).trans (h2 j).symm
theorem off_cons_news {h₀ h : Heap} {L : Addr} {x t : Addr × Obj} {l : List (Addr × Obj)} (_N : News h₀ L h (x :: t :: l)) (hl : ∀ q ∈ t :: l, q.1 < x.1) (off : Off [t] l) : Off [x, t] l :=
  Off.cons (fun q hq => Nat.ne_of_lt (hl q (.tail _ hq))) off
theorem coll_a {a : Str} {x1 u1 : Option Value} {M : Str → Option Value} : (fun y => if y = a then x1 else if y = a then u1 else M y) = fun y => if y = a then x1 else M y := by
  funext y
  by_cases h1 : y = a
  · simp only [if_pos h1]
  · simp only [if_neg h1]
end

section
open PySem PySem.W PySem.Calls PyProof.Rows PyProof.Rows.LCg PyProof.Rows.LCt
variable {w : World}
theorem empty_isDictL : (dictOf [] 0).IsDictOf (sK w) [] := kp_isDict (prog := PP) (w := w) (ex := []) 0 0 List.nodup_nil
theorem said_56 : True := by
  k_with "setAttr ref" => ((fail_if_success k_extra "m_off15"); (k_here; k_dflt (refine' setA ?zqF ?zqX ?zqN ?zqk1 ?zqu1 ?zqhd ?zqi1 ?zqi2 ?zqi3 ?zqi4 ?zqhz ?_; (k_extra "m_s"); (case zqhd => (first | assumption | exact empty_isDictL)); (case zqhz => exact Nat.le_of_ble_eq_true rfl); k_whole; intro h' o' F' N' hd'; (replace hd' := stored_to (by kernel_rfl) hd'); (dsimp only [List.cons_append, List.nil_append] at hd'); (try dsimp only at N'); (try k_sweep))))
  k_with "exec For Name Call cons nil" => ((fail_if_success k_extra "m_off15"); (refine Hold.mk ?_))
  k_with "setItem ref str" => ((fail_if_success k_extra "m_off15"); (k_here; k_dflt (refine' kda_set (knd := sK _) ?zqF ?zqN ?zqu1 ?zqa1 ?zqhk ?zqb1 ?_; (k_extra "m_s"); (case zqhk => exact strKind_is _ _ _ _); k_whole; intro h' o' F' N' hd'; (simp only [strPairs, List.filterMap_cons, List.filterMap_nil, List.map_cons, List.map_nil] at hd'); (replace hd' := stored_to (by kernel_rfl) hd'); (dsimp only [List.cons_append, List.nil_append] at hd'); (try dsimp only at N'); (try k_sweep))))
  k_with "eval Name" => ((fail_if_success k_extra "m_off15"); (k_here; kc_free; (with_reducible show wpAny _ _ (eval (Expr.Name _ _) (envX _ _ _ _ _ _)) _ _ _); k_dflt (refine' nameX_F ?zqN ?zqc ?zqm ?zqd ?_ ?zqa ?zqb; (case zqa => rfl); (case zqb => rfl); (case zqN => k_asm); (case zqc => rfl); (case zqm => with_reducible assumption); (case zqd => assumption); k_whole)))
  k_with "eval Name" => ((fail_if_success k_extra "m_off15"); (k_here; (with_reducible show wpAny _ _ (eval (Expr.Name _ _) (compEnvC _ _ _ _)) _ _ _); k_dflt (refine' lcf_free ?zqN ?zqc ?zqm ?zqd ?_ ?zqa ?zqb; (case zqa => rfl); (case zqb => rfl); (case zqN => k_asm); (case zqc => rfl); (case zqm => exact up3 (by with_reducible assumption)); (case zqd => assumption); k_whole)))
  k_with "subscriptTail" => ((fail_if_success k_extra "m_off15"); ((with_reducible show wpAny _ _ (subscriptTail _ _ (Value.ref ((_ : Role → Addr) Role.all)) (Value.int (Nat.cast _) _)) _ _ _); (with_reducible rename HoldOn => hOn9); (refine Hold.mk ?_)))
  k_with "call ref" => ((fail_if_success k_extra "m_off15"); ((with_reducible rename HoldOn => hOn9); (with_reducible refine' hold_in [346] ?zqr ?_); (case zqr => decide)))
  trivial
theorem ledGen {h₀ h : Heap} {L : Addr} {a b c : Addr} {o1 o2 o3 : Obj} {l : List (Addr × Obj)} {C : Prop} (N : News h₀ L h ((a, o1) :: (b, o2) :: (c, o3) :: l)) (k : ∀ p1 p3, o1 = p1 → o3 = p3 → News h₀ L h ((a, p1) :: (b, o2) :: (c, p3) :: l) → C) : C := k _ _ rfl rfl N
/-- where the law's ways meet -/
noncomputable def WorldEnd (g : Heap) (L : Addr) (m : Str → Option Value) (gens : Array GenState) (drawn : Drawn) (os : OsState) (w : World) (α : Role → Addr) (ω : Role → Obj) (ο δ : Nat → Addr) (pz : Array Value) (k : Nat) (fl : Flow) (s' : Shared) : Prop :=
  ∀ C : Prop, (∀ μ σ st h' tk', fl = .next → s' = ⟨h', gens, drawn, tk', os⟩ → Fr g L h' m → News g L h' ((428, tabObj pz) :: ledW α ο δ μ σ st) → Off [(428, tabObj pz)] (ledW α ο δ μ σ st) → Good w α ω ο δ μ σ st → InvF k st.freed st → C) → C
theorem WorldEnd.intro {g : Heap} {L : Addr} {m : Str → Option Value} {gens : Array GenState} {drawn : Drawn} {os : OsState} {w : World} {α : Role → Addr} {ω : Role → Obj} {ο δ : Nat → Addr} {pz : Array Value} {k : Nat} {μ : Role → Addr} {σ : Role → Obj} {st : St} {h' : Heap} {tk' : Tok}
    (F : Fr g L h' m) (N : News g L h' ((428, tabObj pz) :: ledW α ο δ μ σ st)) (o : Off [(428, tabObj pz)] (ledW α ο δ μ σ st)) (G : Good w α ω ο δ μ σ st) (hI : InvF k st.freed st) : WorldEnd g L m gens drawn os w α ω ο δ pz k .next ⟨h', gens, drawn, tk', os⟩ := fun _ c => c _ _ _ _ _ rfl rfl F N o G hI
theorem cut_world {M : Model} {A : Around} {E : Value → Shared → Prop} {env : Env} {stmt : Stmt} {Q : Flow → Shared → Prop} {hp g : Heap} {L : Addr} {m : Str → Option Value} {gens : Array GenState} {drawn : Drawn} {os : OsState} {tk : Tok} {w : World} {α : Role → Addr} {ω : Role → Obj} {ο δ : Nat → Addr} {pz : Array Value} {k : Nat} {μ : Role → Addr} {σ : Role → Obj} {st : St}
    (_F : Fr g L hp m) (_N : News g L hp ((428, tabObj pz) :: ledW α ο δ μ σ st)) (_o : Off [(428, tabObj pz)] (ledW α ο δ μ σ st)) (_G : Good w α ω ο δ μ σ st) (_hI : InvF k st.freed st)
    (h : ∀ tk, wpAny M A (exec stmt env) (WorldEnd g L m gens drawn os w α ω ο δ pz k) E ⟨hp, gens, drawn, tk, os⟩)
    (c : ∀ μ σ st h' tk', Fr g L h' m → News g L h' ((428, tabObj pz) :: ledW α ο δ μ σ st) → Off [(428, tabObj pz)] (ledW α ο δ μ σ st) → Good w α ω ο δ μ σ st → InvF k st.freed st → Q .next ⟨h', gens, drawn, tk', os⟩) : wpAny M A (exec stmt env) Q E ⟨hp, gens, drawn, tk, os⟩ := by
  refine wpAny_mono (h tk) (fun fl s' hW => ?_) fun _ _ e => e
  refine hW _ ?_
  rintro μ' σ' st' h' tk' rfl rfl F' N' o' G' hI'
  exact c μ' σ' st' h' tk' F' N' o' G' hI'
theorem ref_eq {a b : Addr} (h : a = b) : Value.ref a = Value.ref b := congrArg _ h
theorem said_57 : True := by
  k_with "k_roomU" => (((try simp only [units_in1, units_deeper, Around.mark_units, units_caller]); decide))
  k_with "eval Name" => ((fail_if_success k_extra "m_off15"); (k_here; (with_reducible show wpAny _ _ (eval (Expr.Name (Str.ofString "world") _) (envOfC (Str.ofString "law") _ _ _ _)) _ _ _); (with_reducible rename (∀ _ _ _ _ _, Good _ _ _ _ _ _ _ _ → _) => hmC9); k_dflt (refine' nameX_C ?zqN ?zqc ?zqm ?zqd ?_ ?zqa ?zqb; (case zqa => rfl); (case zqb => rfl); (case zqN => k_asm); (case zqc => rfl); (case zqd => assumption); (case zqm => (first | exact hmC9 _ _ _ _ _ (by assumption) | exact List.Mem.tail _ (hmC9 _ _ _ _ _ (by assumption)) | exact List.Mem.tail _ (List.Mem.tail _ (hmC9 _ _ _ _ _ (by assumption))) | exact List.Mem.tail _ (List.Mem.tail _ (List.Mem.tail _ (hmC9 _ _ _ _ _ (by assumption)))) | exact List.Mem.tail _ (List.Mem.tail _ (List.Mem.tail _ (List.Mem.tail _ (hmC9 _ _ _ _ _ (by assumption))))))); k_whole)))
  k_with "setAttr ref" => ((fail_if_success k_extra "m_off15"); ((with_reducible show wpAny _ _ (setAttr (Value.ref ((_ : Role → Addr) Role.cyc)) (Str.ofString "root_list") _) _ _ _); (refine Hold.mk ?_)))
  k_with "call builtin:list.append" => ((fail_if_success k_extra "m_off15"); (k_here; (with_reducible show wpAny _ _ (call _ [Value.ref ((_ : Role → Addr) (Role.edge _)), _]) _ _ _); k_dflt (refine' app_edge ?zqF ?zqN ?zqoff ?zqG ?zqhi ?zqhz ?_; (case zqG => assumption); (case zqoff => (k_extra "m_off")); (case zqF => k_asm); (case zqN => (k_extra "m_news")); (case zqhi => assumption); (case zqhz => assumption); k_whole; intro h' s' F' N' off' G'; (try dsimp only [List.cons_append, List.nil_append] at N'); (try k_sweep))))
  k_with "getMethod ref" => ((fail_if_success k_extra "m_off15"); (k_here; (with_reducible refine' meth_lo (r := .edge _) ?zqG ?zqN ?zqs ?zqa1 ?zqhL PySem.F.slot_list_append PySem.F.type_list_append ?zqr1 ?_); k_dflt ((k_extra "m_s"); (case zqhL => exact (Good.edgeL (by assumption) (by assumption)).choose_spec))))
  k_with "subscriptTail" => ((fail_if_success k_extra "m_off15"); ((with_reducible show wpAny _ _ (subscriptTail _ _ (Value.ref ((_ : Role → Addr) Role.edges)) (Value.int (1 + _) _)) _ _ _); (refine Hold.mk ?_)))
  k_with "subscriptTail" => ((fail_if_success k_extra "m_off15"); (k_here; (with_reducible show wpAny _ _ (subscriptTail _ _ (Value.ref ((_ : Role → Addr) Role.all)) (Value.int 1 _)) _ _ _); k_dflt (refine kba_turn (value' := PySem.Expr.Name (PySem.Str.ofString "_") ⟨0, 0, 0, 0⟩) (fun _ => rfl) ?_; refine' item_all1 ?zqG ?zqN ?zqhs ?zqhi ?_; (case zqG => assumption); (case zqN => k_asm); (case zqhs => (k_extra "m_sub")); (case zqhi => omega))))
  k_with "call builtin:sorted" => ((fail_if_success k_extra "m_off15"); (k_here; k_dflt (refine' sorted_keys (R := _) ?zqhh ?zqF ?zqN ?zqhm ?zqhd ?zqhk ?zqlo ?zqhne ?zqhz ?_; (case zqhh => exact rfl); (case zqF => k_asm); (case zqN => k_asm); (case zqhm => (k_extra "m_mem")); (case zqhd => assumption); (case zqhk => exact numKV_keys _ _); (case zqlo => assumption); (case zqhne => assumption); (case zqhz => omega); k_whole; intro D' h' tk' vs' R' c' F' N' l1 hv' hp' ho'; (try k_sweep))))
  k_with "compareOp Eq ref ref" => ((fail_if_success k_extra "m_off15"); (k_here; k_dflt (refine' eq_nums ?zqN ?zqhm ?zqhb ?zqhv ?zqhu ?zqhc true ?zqhx ?_; (case zqN => k_asm); (case zqhm => k_mem); (case zqhb => k_mem); (case zqhv => assumption); (case zqhu => assumption); (case zqhc => (k_extra "k_roomU")); (case zqhx => exact (decide_eq_true (sorted_same (by assumption) (by assumption) (by assumption) (by assumption) (by assumption))).symm))))
  trivial
theorem law_holds : PySem.Challenge.rw_sm0060_01.Holds := hd (by rfl) (by rfl) (by rfl) (by
  k_go0
  rename World => w9
  rename List Int => ns9
  rename Fr _ _ _ _ => F0
  rename News _ _ _ _ => N0
  refine law_cut F0 N0 ?_ ?_
  · skip
    k_fold
    have hOn : HoldOn := trivial
    k_steps
    unfold Hold
    (try k_fold)
    (with_reducible rename HoldOn => hOn8)
    clear hOn8
    (with_reducible rename News _ _ _ _ => N9)
    refine ledGen N9 ?_
    clear N9
    intro ofso ofch eso ech N9
    refine' Runs.makeN (fun x dx hx => cycle_init_spec hx) ?B ?F ?X ?N ?T ?hm ?hi ?hfn ?hA ?hf ?hk ?hh ?hd ?hu ?_
    (case F => k_asm)
    (case hA => exact rfl)
    (case B => k_asm)
    (case X => k_asm)
    (case N => k_asm)
    (case T => k_asm)
    (case hm => k_is)
    (case hi => k_is)
    (case hfn => k_is)
    (case hf => exact rfl)
    (case hk => exact rfl)
    (case hh => exact rfl)
    (case hd => k_room)
    (case hu => (k_extra "k_roomU"))
    clear N9
    intro xC dC nwC hC9 tkC FC NC l1C l2C hPC
    replace l2C := ltN l2C
    refine hPC.elim ?_
    clear hPC
    intro aO aMD aM aG aA aW aR aS kg ka kk kr ks oC oO oM t0 t1 t2 t3 t4 t5 t6 t7 t8 t9 tw e9 c1 c2 c3 c4 c5 c6 c7 c8 hO hC hM
    subst e9
    (try dsimp only [List.cons_append, List.nil_append] at NC)
    k_lt l1C
    have p1 := Nat.lt_trans l2C c1
    have p2 := Nat.lt_trans p1 c2
    have p3 := Nat.lt_trans p2 c3
    have p4 := Nat.lt_trans p3 c4
    have p5 := Nat.lt_trans p4 c5
    have p6 := Nat.lt_trans p5 c6
    have p7 := Nat.lt_trans p6 c7
    have p8 := Nat.lt_trans p7 c8
    (try dsimp only)
    k_steps
    unfold Hold
    (try k_fold)
    (with_reducible rename Fr _ _ _ _ => F1)
    (with_reducible rename News _ _ _ _ => N1)
    (with_reducible rename Obj.IsDictOf _ _ [(Str.ofString "all", _), _, _, _, _] => hW0)
    (with_reducible rename Obj.IsDictOf _ _ [(Str.ofString "objects", _), _, _, _, _, _, _, _, _, _, _, _, _, _] => hC0)
    (with_reducible rename Obj.IsDictOf _ _ [(Str.ofString "children", _), _, _, _, _, _] => hM0)
    (with_reducible rename IntsAre _ (List.take 60 _) => hI0)
    refine good1E (w := w9) N1 (by refine ⟨?_, ?_, ?_, ?_, ?_, ?_, ?_, ?_, ?_, ?_, ?_, ?_, ?_, ?_, ?_, ?_, ?_, ?_, ?_, ?_, ?_, trivial⟩ <;> (first | (k_extra "m_conj") | omega)) (by (first | (k_extra "m_conj") | omega)) hW0 (by assumption) (by assumption) (by assumption) (by assumption) hC0 hM0 hI0 ?_
    clear N1 hW0 hC0 hM0
    intro α ω ο δ μ σ pz G2 N2 off2 w1 w2 w3 w4 w5 a1 a2 a3 a4 a5 a6 a7 a8
    replace w1 := w1.trans ech.symm
    replace w2 := w2.trans eso.symm
    clear eso ech
    (with_reducible rename (_ = Data.cell (some (Value.ref _))) => hcl)
    repeat (with_reducible rename (@LT.lt Nat _ _ _ ∧ _) => hx9; clear hx9)
    subst a1 a2 a3 a4 a5 a6 a7
    have FnU : ∀ (α' : Role → Addr) (ω' : Role → Obj), (∀ r, r ≠ .roots → α' r = α r) → (∀ r, r ≠ .roots → ω' r = ω r) → Fns w9 α' ω' := by
      intro α' ω' hα hωr
      have f1 := (hωr .fch (by decide)).trans w1
      have f2 := (hωr .fso (by decide)).trans w2
      have f3 := (hωr .fchC (by decide)).trans w3
      have f4 := (hωr .fsoC (by decide)).trans w4
      have f5 := (hωr .cell (by decide)).trans w5
      have eW := hα .world (by decide)
      have eC := (hα .cell (by decide)).trans a8.symm
      have eS := hα .fsoC (by decide)
      have eH := hα .fchC (by decide)
      rw [← eW] at hcl
      (with_reducible rename (_ = some (Value.str (qualnameIn _ _ _) _)) => hq1)
      generalize qualnameIn _ _ _ = qq at f1 hq1
      refine ⟨fun ο δ μ σ st i G hi => ?_, fun ο δ μ σ st i G hw hi => ?_, ⟨_, _, _, _, f2⟩, ⟨_, _, _, _, f1⟩⟩
      · have m3 := led_cell G f5 eC
        refine runs_ofL (names := [Str.ofString "obj"]) (led_fso G f2 rfl) (led_fsoC G f4 eS) (by assumption) (by assumption) rfl (by decide) rfl (locs rfl) rfl rfl rfl (by decide) ?_
        intro p loose mean mg mb dp un gd outer A₀ base g L h₁ gens drawn tk os B F X N T hD hU
        (try dsimp only [bindM] at F)
        (try k_fold)
        k_steps
        (try dsimp only)
        exact Done.intro (by k_asm) (by k_asm) ⟨rfl, _, rfl⟩
      · have m3 := led_cell G f5 eC
        refine runs_ofN (names := [Str.ofString "obj"]) (led_fch G f1 rfl) (led_fchC G f3 eH) (by assumption) (by assumption) rfl (by decide) (fun _ => BindsTo.of_eq rfl) (locs rfl) rfl rfl rfl (by decide) ?_
        intro p loose mean mg mb dp un gd outer A₀ base g L h₁ gens drawn tk os B F X N T hD hU
        (try dsimp only [bindM] at F)
        (try k_fold)
        obtain ⟨us, ⟨ke, hLe⟩, hNe⟩ := G.sh (.edge i) hi
        have hme : (μ (.edge i), PySem.W.listOf us.toArray ke) ∈ ledW α' ο δ μ σ st := by
          have := mem_led (β := adr α' ο δ μ) (σ := σ) (n := st.n) (r := .edge i) hi
          rw [hLe] at this; exact this
        have hel := hw.elen i hi
        have hul := hNe.len
        k_steps
        unfold Hold
        (try k_fold)
        (with_reducible rename Fr _ _ _ _ => F7)
        refine ListComp_UG F7 (by with_unfolding_all rfl) (by decide) (by rfl) (by decide) (by rfl) ?_
        k_steps
        (with_reducible rename Fr _ _ _ _ => F8)
        (with_reducible rename News _ _ _ _ => N8)
        refine SrcG.list rfl F8 N8 hme (by omega) fun g => Mine.CompRest.read (fun a y => ∃ j, (st.edges i)[a]? = some j ∧ y = .ref (ο j)) ?_ ?_ ?_
        · exact hme
        · intro ys hp
          rw [hul] at hp
          have hys := refs_of_paired hp
          subst hys
          intro D3 h6 tk6 F6 N6 o2
          (try dsimp only)
          exact Done.intro (by k_asm) (by k_asm) ⟨D3, _, rfl, rfl, Off.cons (fun q hq => Off1.mem' o2 q hq) off_nil⟩
        · intro a v I oI C oC D ys m₂ h6 tk6 E' hi6 hv6 hC hx F6 N6 o3 ne
          obtain ⟨j, t, hj, rfl⟩ := hNe.get hv6
          have hjk := hw.edge i hi j (List.mem_of_getElem? hj)
          have hOn : HoldOn := trivial
          k_steps
          unfold Hold
          (try k_fold)
          refine kba_turn (value' := PySem.Expr.Name (PySem.Str.ofString "_") ⟨0, 0, 0, 0⟩) (fun _ => rfl) ?_
          (with_reducible rename News _ _ _ _ => N9)
          refine item_all G N9 (sub_cons (sub_cons (sub_cons sub_refl))) hjk ?_
          exact ⟨⟨j, hj, rfl⟩, RdEnd.intro (by k_asm) (by k_asm) (by (k_extra "m_sub"))⟩
    have hmC : ∀ ο δ μ σ st, Good w9 α ω ο δ μ σ st → _ ∈ ledW α ο δ μ σ st := fun ο δ μ σ st G => led_cell G w5 a8.symm
    have hc0 : (st0 (4 * 64) (List.take 60 ns9)).cells.length ≤ 60 := by show (List.take 60 ns9).length ≤ 60; rw [List.length_take]; exact Nat.min_le_left _ _
    have hIn0 := ini0 (4 * 64) (List.take 60 ns9)
    have hn0 : (st0 (4 * 64) (List.take 60 ns9)).n = 0 := rfl
    have hps0 : (st0 (4 * 64) (List.take 60 ns9)).ps = 0 := rfl
    have hpe0 : (st0 (4 * 64) (List.take 60 ns9)).pe = 0 := rfl
    generalize st0 (4 * 64) (List.take 60 ns9) = s0 at G2 N2 off2 hc0 hIn0 hn0 hps0 hpe0
    refine For_invVF F1 rfl rfl ?_
    k_steps
    unfold Hold
    (try k_fold)
    ((refine' Runs.callT (rainW_spec G2 (by omega) hc0) off2 ?Bq78 ?Fq78 ?Xq78 ?Nq78 ?Tq78 ?hAq78 ?hfq78 ?hkq78 ?hhq78 ?hdq78 ?huq78 ?_; (case Fq78 => k_asm); (case hAq78 => exact rfl); (case Bq78 => k_asm); (case Xq78 => k_asm); (case Nq78 => (k_extra "m_news")); (case Tq78 => k_asm); (case hfq78 => exact rfl); (case hkq78 => exact rfl); (case hhq78 => exact rfl); (case hdq78 => k_room); (case huq78 => (k_extra "k_roomU")); k_whole; (try dsimp only)))
    refine kE5 ?_
    intro ra ta σ3 h3 tk3 F3 N3 off3 G3 ha0 ha1
    (try dsimp only)
    (try k_fold)
    (try dsimp only [List.cons_append, List.nil_append] at N3)
    (try dsimp only)
    k_steps
    unfold Hold
    (try k_fold)
    obtain ⟨na, rfl⟩ := Int.eq_ofNat_of_zero_le ha0
    rw [show (1 : Int) + (na : Int) = ((1 + na : Nat) : Int) from by omega]
    (with_reducible rename Fr _ _ _ _ => F4)
    (with_reducible rename News _ _ _ _ => N4)
    refine range_W1 (n := 1 + na) (S "number") (fun i nw => ∀ C : Prop, (∀ ο δ μ σ s1, nw = (428, tabObj pz) :: ledW α ο δ μ σ s1 → Off [(428, tabObj pz)] (ledW α ο δ μ σ s1) → Good w9 α ω ο δ μ σ s1 → Ini s1 → s1.n = i → s1.cells.length ≤ 60 → s1.ps = 0 → s1.pe = 0 → C) → C) rfl F4 N4 (by omega) (fun C k => k ο δ μ σ3 _ rfl off3 G3 (hIn0.setTurn _) hn0 hc0 hps0 hpe0) ?_ ?_
    · (try clear F4); (try clear N4); (try clear F3); (try clear N3); (try clear N2); (try clear G2); (try clear G3); (try clear off2); (try clear off3); (try clear F1)
      intro i t u1 u3 news₁ I io h4 tk4 hi hJ0 hoff F4 N4
      (try dsimp only)
      (try k_fold)
      refine hJ0 _ ?_
      clear hJ0
      rintro ο4 δ4 μ4 σ4 s4 rfl off4 G4 hIn4 rfl hc4 hps4 hpe4
      have offI : Off [(I, io), (428, tabObj pz)] (ledW α ο4 δ4 μ4 σ4 s4) := Off.cons (p := (I, io)) (fun q hq => hoff q (.tail _ hq)) off4
      have hI428 := hoff _ (.head _)
      (try dsimp only)
      k_steps
      unfold Hold
      (try k_fold)
      ((refine' Runs.callT (new_spec G4 hps4 hpe4 (by omega) hc4 (by rw [hIn4.live]; exact fun i hi => (mem_upTo.mp hi).2) (by rw [hIn4.grey]; exact fun _ h => nomatch h) (by rw [hIn4.again]; exact fun _ h => nomatch h) (by rw [hIn4.roots]; exact fun _ h => nomatch h) (by rw [hIn4.live, upTo_len]; omega)) offI ?Bq79 ?Fq79 ?Xq79 ?Nq79 ?Tq79 ?hAq79 ?hfq79 ?hkq79 ?hhq79 ?hdq79 ?huq79 ?_; (case Fq79 => k_asm); (case hAq79 => exact rfl); (case Bq79 => k_asm); (case Xq79 => k_asm); (case Nq79 => (k_extra "m_news")); (case Tq79 => k_asm); (case hfq79 => exact rfl); (case hkq79 => exact rfl); (case hhq79 => exact rfl); (case hdq79 => k_room); (case huq79 => (k_extra "k_roomU")); k_whole; (try dsimp only)))
      refine kE10 ?_
      intro ο5 δ5 μ5 σ5 sv zv tv h5 tk5 F5 N5 off5 hsv hzv G5
      (try dsimp only)
      (try k_fold)
      (try dsimp only [List.cons_append, List.nil_append] at N5)
      obtain ⟨hIn5, hel5⟩ := hIn4.new (show s4.n < 3 by omega) hsv hzv
      have hc5 : (newSt s4 sv zv).cells.length ≤ 60 := hc4
      have hps5 : (newSt s4 sv zv).ps = 0 := rfl
      have hpe5 : (newSt s4 sv zv).pe = 0 := rfl
      have hn5 : (newSt s4 sv zv).n = s4.n + 1 := rfl
      generalize newSt s4 sv zv = s5 at G5 N5 off5 hIn5 hel5 hc5 hps5 hpe5 hn5
      (try clear G4); (try clear N4); (try clear F4)
      (try dsimp only)
      by_cases h0 : s4.n = 0
      · have hd0 : decide ((1 : Int) < ((s4.n + 1 : Nat) : Int)) = false := by rw [h0]; rfl
        k_steps
        (with_reducible rename Fr _ _ _ _ => F7)
        (with_reducible rename News _ _ _ _ => N7)
        exact ⟨_, _, _, (428, tabObj pz) :: ledW α ο5 δ5 μ5 σ5 s5, rfl, F7, N7, off_turn hI428 off5, ⟨_, _, coll_ab⟩, fun C k => k ο5 δ5 μ5 σ5 s5 rfl (off_tl off5) G5 hIn5 hn5 hc5 hps5 hpe5⟩
      · have hd0 : decide ((1 : Int) < ((s4.n + 1 : Nat) : Int)) = true := by rw [decide_eq_true_eq]; omega
        k_steps
        unfold Hold
        (try k_fold)
        ((refine' Runs.callT (rainW_spec G5 (by omega) hc5) off5 ?Bq80 ?Fq80 ?Xq80 ?Nq80 ?Tq80 ?hAq80 ?hfq80 ?hkq80 ?hhq80 ?hdq80 ?huq80 ?_; (case Fq80 => k_asm); (case hAq80 => exact rfl); (case Bq80 => k_asm); (case Xq80 => k_asm); (case Nq80 => (k_extra "m_news")); (case Tq80 => k_asm); (case hfq80 => exact rfl); (case hkq80 => exact rfl); (case hhq80 => exact rfl); (case hdq80 => k_room); (case huq80 => (k_extra "k_roomU")); k_whole; (try dsimp only)))
        refine kE5 ?_
        intro rp tp σ6 h6 tk6 F6 N6 off6 G6 hp0 hp1
        (try dsimp only)
        (try k_fold)
        (try dsimp only [List.cons_append, List.nil_append] at N6)
        obtain ⟨np, rfl⟩ := Int.eq_ofNat_of_zero_le hp0
        have hok5 : s4.ok (1 + np) := ⟨by omega, by omega⟩
        have hln5 := hel5 (1 + np) hok5
        have hn3 := hIn5.n3
        replace G6 : Good w9 α ω ο5 δ5 μ5 σ6 (s5.setTurn (s5.turn + 1)) := G6
        replace N6 : News _ _ _ ((I, io) :: (428, tabObj pz) :: ledW α ο5 δ5 μ5 σ6 (s5.setTurn (s5.turn + 1))) := N6
        replace off6 : Off [(I, io), (428, tabObj pz)] (ledW α ο5 δ5 μ5 σ6 (s5.setTurn (s5.turn + 1))) := off6
        have hIn6 := hIn5.setTurn (s5.turn + 1)
        have e6 : (s5.setTurn (s5.turn + 1)).n = s4.n + 1 ∧ (s5.setTurn (s5.turn + 1)).edges = s5.edges ∧ (s5.setTurn (s5.turn + 1)).cells.length ≤ 60 ∧ (s5.setTurn (s5.turn + 1)).ps = 0 ∧ (s5.setTurn (s5.turn + 1)).pe = 0 := ⟨hn5, rfl, hc5, hps5, hpe5⟩
        generalize s5.setTurn (s5.turn + 1) = s6 at G6 N6 off6 hIn6 e6
        have en6 := e6.1
        have ee6 := e6.2.1
        have hc6 := e6.2.2.1
        have hps6 := e6.2.2.2.1
        have hpe6 := e6.2.2.2.2
        clear e6
        have hok6 : s6.ok (1 + np) := ⟨by omega, by omega⟩
        have hok7 : s6.ok (s4.n + 1) := ⟨by omega, by omega⟩
        have hel6 : (s6.edges (1 + np)).length ≤ 10000 := by rw [ee6]; omega
        have hIn7 := hIn6.append (p := 1 + np) (c := s4.n + 1) hok7 (by rw [ee6, en6]; omega)
        (try clear G5); (try clear N5); (try clear off5)
        (try dsimp only)
        k_steps
        unfold Hold
        (try k_fold)
        rw [show (1 : Int) + (np : Int) = ((1 + np : Nat) : Int) from by omega]
        k_steps
        (with_reducible rename Fr _ _ _ _ => F7)
        (with_reducible rename News _ _ _ _ => N7)
        (with_reducible rename Off _ (ledW _ _ _ _ _ (St.setEdge _ _ _)) => off7)
        (with_reducible rename Good _ _ _ _ _ _ _ (St.setEdge _ _ _) => G7)
        exact ⟨_, _, _, (428, tabObj pz) :: ledW α ο5 δ5 μ5 _ (s6.setEdge (1 + np) (s6.edges (1 + np) ++ [s4.n + 1])), rfl, F7, N7, off_turn hI428 off7, ⟨_, _, coll_ab⟩, fun C k => k ο5 δ5 μ5 _ _ rfl (off_tl off7) G7 hIn7 en6 hc6 hps6 hpe6⟩
    · (try clear F4); (try clear N4); (try clear F3); (try clear N3); (try clear N2); (try clear G2); (try clear G3); (try clear off2); (try clear off3); (try clear F1)
      intro u1 u3 news₁ h4 tk4 hJ0 F4 N4
      (try dsimp only)
      (try k_fold)
      refine hJ0 _ ?_
      clear hJ0
      rintro ο4 δ4 μ4 σ4 s4 rfl off4 G4 hIn4 hn4 hc4 hps4 hpe4
      (try dsimp only)
      k_steps
      unfold Hold
      (try k_fold)
      rename (428 < _ ∧ AllLt _ _) => l6
      (with_reducible rename Fr _ _ _ _ => F6)
      (with_reducible rename News _ _ _ _ => N6)
      k_dflt (refine' set_roots (tmp := [(428, tabObj pz)]) F6 ?X N6 ?hlt off4 G4 ?hs ?hp ?ht ?hh ?_; (case X => k_asm); (case hlt => exact fun p hp => (by
        rcases List.mem_cons.mp hp with rfl | hp
        · exact l6.1
        · exact allLt_mem l6.2 p hp)); (case hs => k_is); (case hp => k_is); (case ht => k_is); (case hh => k_is))
      intro h7 σ7 o7 F7 N7 off7 G7
      (try dsimp only [List.cons_append, List.nil_append] at N7)
      generalize hα7 : upd α Role.roots _ = α7 at G7 N7 off7
      generalize hω7 : upd ω Role.roots o7 = ω7 at G7
      have Fn7 : Fns w9 α7 ω7 := FnU α7 ω7 (fun r hr => by rw [← hα7]; exact upd_ne _ _ hr) (fun r hr => by rw [← hω7]; exact upd_ne _ _ hr)
      have eg : α .gut = α7 .gut := by rw [← hα7]; exact (upd_ne _ _ (by decide)).symm
      have ew : α .world = α7 .world := by rw [← hα7]; exact (upd_ne _ _ (by decide)).symm
      have ec : α7 .cell = α .cell := by rw [← hα7]; exact upd_ne _ _ (by decide)
      have ec2 : ω7 .cell = ω .cell := by rw [← hω7]; exact upd_ne _ _ (by decide)
      have hmC7 : ∀ ο δ μ σ st, Good w9 α7 ω7 ο δ μ σ st → _ ∈ ledW α7 ο δ μ σ st := fun ο δ μ σ st G => led_cell G (ec2.trans w5) (ec.trans a8.symm)
      rw [ew] at hcl
      rw [eg] at F7
      have hI7 : InvF 0 (s4.setRoots [1]).freed (s4.setRoots [1]) := by
        have := hIn4.inv (by omega)
        rw [show (s4.setRoots [1]).freed = [] from hIn4.freed]; exact this
      have hc7 : (s4.setRoots [1]).cells.length ≤ 60 := hc4
      have hps7 : (s4.setRoots [1]).ps = 0 := hps4
      have hpe7 : (s4.setRoots [1]).pe = 0 := hpe4
      generalize s4.setRoots [1] = s7 at G7 N7 off7 hI7 hc7 hps7 hpe7
      clear FnU
      (try clear G4); (try clear N4); (try clear F4); (try clear N6); (try clear F6); (try clear off4); (try clear l6)
      (try dsimp only)
      k_steps
      unfold Hold
      (try k_fold)
      (with_reducible rename Fr _ _ _ _ => F8)
      refine For_invVF F8 rfl rfl ?_
      k_steps
      unfold Hold
      (try k_fold)
      ((refine' Runs.callT (rainW_spec G7 (by omega) hc7) off7 ?Bq81 ?Fq81 ?Xq81 ?Nq81 ?Tq81 ?hAq81 ?hfq81 ?hkq81 ?hhq81 ?hdq81 ?huq81 ?_; (case Fq81 => k_asm); (case hAq81 => exact rfl); (case Bq81 => k_asm); (case Xq81 => k_asm); (case Nq81 => (k_extra "m_news")); (case Tq81 => k_asm); (case hfq81 => exact rfl); (case hkq81 => exact rfl); (case hhq81 => exact rfl); (case hdq81 => k_room); (case huq81 => (k_extra "k_roomU")); k_whole; (try dsimp only)))
      refine kE5 ?_
      intro rn tn σ9 h8 tk8 F9 N9 off9 G9 hb0 hb1
      (try dsimp only)
      (try k_fold)
      (try dsimp only [List.cons_append, List.nil_append] at N9)
      obtain ⟨nd, rfl⟩ := Int.eq_ofNat_of_zero_le hb0
      (try dsimp only)
      k_steps
      unfold Hold
      (try k_fold)
      (with_reducible rename Fr _ _ _ _ => F10)
      (with_reducible rename News _ _ _ _ => N10)
      refine range_W0 (n := nd) (fun i nw => ∀ C : Prop, (∀ ο δ μ σ s1, nw = (428, tabObj pz) :: ledW α7 ο δ μ σ s1 → Off [(428, tabObj pz)] (ledW α7 ο δ μ σ s1) → Good w9 α7 ω7 ο δ μ σ s1 → InvF i s1.freed s1 → s1.cells.length ≤ 60 → s1.ps = 0 → s1.pe = 0 → C) → C) rfl F10 N10 (by omega) (fun C k => k _ _ _ _ _ rfl off9 G9 (hI7.setTurn _) hc7 hps7 hpe7) ?_ ?_
      · (try clear F10); (try clear N10); (try clear F9); (try clear N9); (try clear G9); (try clear off9); (try clear G7); (try clear N7); (try clear F7); (try clear off7); (try clear F8)
        intro i t u3 news₁ I io h10 tk10 hi hJ0 hoff F4 N4
        (try dsimp only)
        (try k_fold)
        refine hJ0 _ ?_
        clear hJ0
        rintro ο4 δ4 μ4 σ4 s4 rfl off4 G4 hI4 hc4 hps4 hpe4
        have offI : Off [(I, io), (428, tabObj pz)] (ledW α7 ο4 δ4 μ4 σ4 s4) := Off.cons (p := (I, io)) (fun q hq => hoff q (.tail _ hq)) off4
        have hI428 := hoff _ (.head _)
        (try dsimp only)
        k_steps
        unfold Hold
        (try k_fold)
        ((refine' Runs.callT (done_spec Fn7 G4 hI4 (by omega) hps4 hpe4 hc4) offI ?Bq82 ?Fq82 ?Xq82 ?Nq82 ?Tq82 ?hAq82 ?hfq82 ?hkq82 ?hhq82 ?hdq82 ?huq82 ?_; (case Fq82 => k_asm); (case hAq82 => exact rfl); (case Bq82 => k_asm); (case Xq82 => k_asm); (case Nq82 => (k_extra "m_news")); (case Tq82 => k_asm); (case hfq82 => exact rfl); (case hkq82 => exact rfl); (case hhq82 => exact rfl); (case hdq82 => k_room); (case huq82 => (k_extra "k_roomU")); k_whole; (try dsimp only)))
        refine kE11 ?_
        intro ο5 δ5 μ5 σ5 s5 h11 tk11 F11 N11 off11 G5 hI5 hps5 hpe5 hc5
        (try dsimp only)
        (try k_fold)
        (try dsimp only [List.cons_append, List.nil_append] at N11)
        (try clear G4); (try clear N4); (try clear F4)
        (try dsimp only)
        k_steps
        (with_reducible rename Fr _ _ _ _ => F12)
        (with_reducible rename News _ _ _ _ => N12)
        exact ⟨_, _, _, (428, tabObj pz) :: ledW α7 ο5 δ5 μ5 σ5 s5, rfl, F12, N12, off_turn hI428 off11, ⟨_, coll_a⟩, fun C k => k ο5 δ5 μ5 σ5 s5 rfl (off_tl off11) G5 hI5 (by rw [hc5]; exact hc4) hps5 hpe5⟩
      · (try clear F10); (try clear N10); (try clear F9); (try clear N9); (try clear G9); (try clear off9); (try clear G7); (try clear N7); (try clear F7); (try clear off7); (try clear F8)
        intro u3 news₁ h10 tk10 hJ0 F4 N4
        (try dsimp only)
        (try k_fold)
        refine hJ0 _ ?_
        clear hJ0
        rintro ο4 δ4 μ4 σ4 s4 rfl off4 G4 hI4 hc4 hps4 hpe4
        (try dsimp only)
        k_steps
        unfold Hold
        (try k_fold)
        ((refine' Runs.callT (rainW_spec G4 (by omega) hc4) off4 ?Bq83 ?Fq83 ?Xq83 ?Nq83 ?Tq83 ?hAq83 ?hfq83 ?hkq83 ?hhq83 ?hdq83 ?huq83 ?_; (case Fq83 => k_asm); (case hAq83 => exact rfl); (case Bq83 => k_asm); (case Xq83 => k_asm); (case Nq83 => (k_extra "m_news")); (case Tq83 => k_asm); (case hfq83 => exact rfl); (case hkq83 => exact rfl); (case hhq83 => exact rfl); (case hdq83 => k_room); (case huq83 => (k_extra "k_roomU")); k_whole; (try dsimp only)))
        refine kE5 ?_
        intro rb tb σ5 h11 tk11 F5 N5 off5 G5 hd0 hd1
        (try dsimp only)
        (try k_fold)
        (try dsimp only [List.cons_append, List.nil_append] at N5)
        replace G5 : Good w9 α7 ω7 ο4 δ4 μ4 σ5 (s4.setTurn (s4.turn + 1)) := G5
        replace N5 : News _ _ _ ((428, tabObj pz) :: ledW α7 ο4 δ4 μ4 σ5 (s4.setTurn (s4.turn + 1))) := N5
        replace off5 : Off [(428, tabObj pz)] (ledW α7 ο4 δ4 μ4 σ5 (s4.setTurn (s4.turn + 1))) := off5
        have hI5 : InvF nd (s4.setTurn (s4.turn + 1)).freed (s4.setTurn (s4.turn + 1)) := hI4.setTurn _
        generalize s4.setTurn (s4.turn + 1) = s5 at G5 N5 off5 hI5
        (try clear G4); (try clear N4); (try clear F4)
        (try dsimp only)
        have hOn : HoldOn := trivial
        k_steps
        unfold Hold
        (try k_fold)
        (with_reducible rename HoldOn => hOn9)
        (with_reducible rename Fr _ _ _ _ => F6)
        (with_reducible rename News _ _ _ _ => N6)
        (try dsimp only)
        refine cut_world F6 N6 off5 G5 hI5 ?_ ?_
        · clear hOn9
          intro tk6
          k_steps
          · unfold Hold
            (try k_fold)
            ((refine' Runs.callT (cycle_right_spec Fn7 G5 hI5) off5 ?Bq84 ?Fq84 ?Xq84 ?Nq84 ?Tq84 ?hAq84 ?hfq84 ?hkq84 ?hhq84 ?hdq84 ?huq84 ?_; (case Fq84 => k_asm); (case hAq84 => exact rfl); (case Bq84 => k_asm); (case Xq84 => k_asm); (case Nq84 => (k_extra "m_news")); (case Tq84 => k_asm); (case hfq84 => exact rfl); (case hkq84 => exact rfl); (case hhq84 => exact rfl); (case hdq84 => k_room); (case huq84 => (k_extra "k_roomU")); k_whole; (try dsimp only)))
            refine kE7 ?_
            intro μ12 σ12 s12 h12 tk12 F12 N12 off12 G12 hI12
            (try dsimp only)
            (try k_fold)
            (try dsimp only [List.cons_append, List.nil_append] at N12)
            (try clear G5); (try clear N5); (try clear F5); (try clear F6); (try clear N6)
            (try dsimp only)
            k_steps
            (with_reducible rename Fr _ _ _ _ => F13)
            (with_reducible rename News _ _ _ _ => N13)
            exact WorldEnd.intro F13 N13 off12 G12 hI12
          · exact WorldEnd.intro (by k_asm) (by k_asm) off5 G5 hI5
        · clear F6 N6 hOn9 G5 off5 hI5
          (try clear N5); (try clear F5)
          intro μ12 σ12 s12 h12 tk12 F12 N12 off12 G12 hI12
          (try dsimp only)
          k_steps
          unfold Hold
          (try k_fold)
          ((refine' Runs.callT (whole_spec Fn7 G12 hI12) off12 ?Bq85 ?Fq85 ?Xq85 ?Nq85 ?Tq85 ?hAq85 ?hfq85 ?hkq85 ?hhq85 ?hdq85 ?huq85 ?_; (case Fq85 => k_asm); (case hAq85 => exact rfl); (case Bq85 => k_asm); (case Xq85 => k_asm); (case Nq85 => (k_extra "m_news")); (case Tq85 => k_asm); (case hfq85 => exact rfl); (case hkq85 => exact rfl); (case hhq85 => exact rfl); (case hdq85 => k_room); (case huq85 => (k_extra "k_roomU")); k_whole; (try dsimp only)))
          refine kE8 ?_
          intro b20 R20 μ20 σ20 h20 tk20 F20 N20 off20 G20 hE20 hR20
          (try dsimp only)
          (try k_fold)
          (try dsimp only [List.cons_append, List.nil_append] at N20)
          have hI20 := whole_inv hI12 hE20 hR20
          have hL20 : ∀ j, j ∈ (wholeOf b20 s12.freed R20).live ↔ Reach s12.edges j := hE20.exact
          have eE20 : (wholeOf b20 s12.freed R20).edges = s12.edges := hE20.keep.edges
          generalize wholeOf b20 s12.freed R20 = s20 at G20 N20 off20 hI20 hL20 eE20
          have hobj20 : (α7 .objs, σ20 .objs) ∈ ledW α7 ο4 δ4 μ20 σ20 s20 := mem_led (β := adr α7 ο4 δ4 μ20) (σ := σ20) (n := s20.n) (r := .objs) trivial
          have hdo20 : (σ20 .objs).IsDictOf (iK w9) (numKV ο4 s20.live) := G20.sh .objs trivial
          have lo20 : (α7 .objs == sysModules) = false := G20.low (r := .objs) trivial
          have hone20 := hI20.one
          have hne20 : s20.live ≠ [] := by intro e; rw [e] at hone20; cases hone20
          have hll20 := hI20.llen
          have hsm20 := hI20.wf.small
          (try clear G12)
          (try dsimp only)
          k_steps
          unfold Hold
          (try k_fold)
          rename (∀ q ∈ (428, tabObj pz) :: ledW α7 ο4 δ4 μ20 σ20 s20, q.1 < _) => l21
          (with_reducible rename News _ _ _ _ => N21)
          ((refine' Runs.callT (whole_spec Fn7 G20 hI20) (off_cons_news N21 l21 off20) ?Bq86 ?Fq86 ?Xq86 ?Nq86 ?Tq86 ?hAq86 ?hfq86 ?hkq86 ?hhq86 ?hdq86 ?huq86 ?_; (case Fq86 => k_asm); (case hAq86 => exact rfl); (case Bq86 => k_asm); (case Xq86 => k_asm); (case Nq86 => (k_extra "m_news")); (case Tq86 => k_asm); (case hfq86 => exact rfl); (case hkq86 => exact rfl); (case hhq86 => exact rfl); (case hdq86 => k_room); (case huq86 => (k_extra "k_roomU")); k_whole; (try dsimp only)))
          refine kE8 ?_
          intro b22 R22 μ22 σ22 h22 tk22 F22 N22 off22 G22 hE22 hR22
          (try dsimp only)
          (try k_fold)
          (try dsimp only [List.cons_append, List.nil_append] at N22)
          have hI22 := whole_inv hI20 hE22 hR22
          have hL22 : ∀ j, j ∈ (wholeOf b22 s20.freed R22).live ↔ Reach s20.edges j := hE22.exact
          rw [eE20] at hL22
          generalize wholeOf b22 s20.freed R22 = s22 at G22 N22 off22 hI22 hL22
          have hAB : s22.live.Perm s20.live := perm_of_reach hI22.lnd hI20.lnd hL22 hL20
          clear hobj20 hdo20 G20 l21 N21
          have hobj22 : (α7 .objs, σ22 .objs) ∈ ledW α7 ο4 δ4 μ22 σ22 s22 := mem_led (β := adr α7 ο4 δ4 μ22) (σ := σ22) (n := s22.n) (r := .objs) trivial
          have hdo22 : (σ22 .objs).IsDictOf (iK w9) (numKV ο4 s22.live) := G22.sh .objs trivial
          have hone22 := hI22.one
          have hne22 : s22.live ≠ [] := by intro e; rw [e] at hone22; cases hone22
          have hll22 := hI22.llen
          have hsm22 := hI22.wf.small
          (try dsimp only)
          k_steps
          (with_reducible rename Fr _ _ _ _ => F23)
          (with_reducible rename News _ _ _ _ => N23)
          (try dsimp only)
          exact LawEnd.intro (ps := pz) F23 N23 (.tail _ (.tail _ (.head _)))
  · intro h' tk' m' news' ps F' N' hm
    dsimp only
    refine ⟨?_, GrownAt.of N' hm, trivial⟩
    wrow_close
  )
end
end Mine
theorem PySem.Challenge.cw_sm0060_01_holds : PySem.Challenge.rw_sm0060_01.Holds :=
  Mine.law_holds
