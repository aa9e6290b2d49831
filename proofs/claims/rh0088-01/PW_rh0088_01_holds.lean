import PyProof.Rows.All
import Wide.All
import OpenK.AllK
import Wide.FinOn
import PySem.Challenge.RW_rh0088_01
open PySem PySem.W PyProof.Rows
set_option Elab.async false
namespace Mine
set_option maxRecDepth 100000 in
set_option maxHeartbeats 8000000 in
theorem said : PySem.Challenge.rw_rh0088_01.wellSaid = true := by decide +kernel
section
local macro_rules | `(tactic| first | $_:tacticSeq | fail $_) => `(tactic| assumption)
set_option maxRecDepth 100000 in
set_option maxHeartbeats 8000000 in
theorem hd (h : PySem.Challenge.rw_rh0088_01.row.Holds) : PySem.Challenge.rw_rh0088_01.row.Holds := by
  w_on
  k_head
end
noncomputable def ads : List Addr := [2, 3, 15, 17, 18, 20, 21, 22, 29, 30, 31, 32, 35, 42, 44, 45, 47, 48, 49, 50, 51, 54, 56, 57, 59, 60, 61, 63, 64, 66, 67, 75, 77, 78, 80, 81, 82, 84, 85, 87, 88, 89, 91, 92, 94, 95, 96, 98, 99, 101, 102, 103, 105, 106, 108, 109, 110, 112, 113, 115, 116, 117, 119, 120, 122, 123, 124, 126, 127, 129, 130, 131, 133, 134, 136, 137, 138, 140, 141, 143, 144, 145, 147, 148, 150, 151, 152, 153, 154, 155, 156, 159, 161, 162, 164, 165, 166, 168, 169, 171, 172, 173, 175, 176, 178, 179, 180, 188, 189, 191, 192, 194, 195, 196, 198, 199, 201, 202, 203, 205, 206, 208, 209, 210, 212, 213, 215, 216, 217, 219, 220, 222, 223, 224, 226, 227, 229, 230, 231, 233, 234, 236, 237, 238, 240, 241, 243, 244, 245, 247, 248, 250, 251, 252, 254, 255, 257, 258, 259, 261, 262, 264, 265, 266, 268, 269, 271, 272, 273, 275, 276, 278, 279, 280, 282, 283, 285, 286, 287, 289, 290, 292, 293, 294, 296, 297, 299, 300, 301, 303, 304, 306, 307, 308, 310, 311, 313, 314, 315, 317, 318, 320, 321, 322, 323, 324, 325, 326, 329, 336, 338, 339, 341, 342, 343, 344, 346, 347, 349, 350, 351, 353, 354, 356, 357, 358, 360, 361, 363, 364, 365, 367, 368, 370, 371, 372, 374, 375, 377, 378, 379, 380, 381, 384, 386, 387, 389, 390, 391, 393, 394, 396, 397, 398, 400, 401, 403, 404, 405, 407, 408, 410, 411, 412, 414, 415, 417, 418, 419, 422, 423]
theorem adsOf (P : Params) : ads = (Mine.hd.heap_1 P).map (·.1) := by kernel_rfl
namespace left
theorem tw357486453476387696 : True := trivial
theorem tw2508255044705368994 : True := trivial
theorem tw8427830315208085957 : True := trivial
theorem tw15362865963312806335 : True := trivial
theorem tw11737163311548136805 : True := trivial
theorem tw7754380154279980722 : True := trivial
theorem tw10110910662752448105 : True := trivial
theorem tw15624161589976152619 : True := trivial
theorem tw9510546454699196683 : True := trivial
theorem tw13657927971667437681 : True := trivial
theorem tw2991739745538749622 : True := trivial
theorem tw4143658306695679891 : True := trivial
theorem tw14467678020673777279 : True := trivial
theorem tw7647586637117180904 : True := trivial
theorem tw11425652967813100610 : True := trivial
theorem tw4540421770880275525 : True := trivial
theorem tw15919823191328938754 : True := trivial
theorem tw7793106970758391805 : True := trivial
theorem tw610042258885273521 : True := trivial
theorem tw9347541995480993860 : True := trivial
theorem tw1187454000392326399 : True := trivial
theorem tw17382334535894597129 : True := trivial
theorem tw9241849893194190339 : True := trivial
theorem tw13051862436137710327 : True := trivial
theorem tw9539291337092223762 : True := trivial
theorem tw7805062997515121479 : True := trivial
theorem tw13588670805678591013 : True := trivial
theorem tw7686691077478463266 : True := trivial
theorem tw7857815985408435568 : True := trivial
theorem tw4884106663507342984 : True := trivial
theorem tw4281940085092572119 : True := trivial
theorem tw4569371261588614350 : True := trivial
theorem tw9179613791492743470 : True := trivial
theorem tw15692723794750608050 : True := trivial
theorem tw14140284516111470953 : True := trivial
theorem tw6766156173428751917 : True := trivial
theorem tw1745764893773006261 : True := trivial
theorem tw729597280060366536 : True := trivial
theorem tw17711621395969873754 : True := trivial
theorem tw18282180785652238172 : True := trivial
theorem tw13986459623980930412 : True := trivial
theorem tw10901095356670634775 : True := trivial
theorem tw12358095837965013926 : True := trivial
theorem tw2946437789193543864 : True := trivial
theorem tw14452968524310018771 : True := trivial
theorem tw8175617888867968475 : True := trivial
theorem tw9377490910188962066 : True := trivial
theorem tw12125402850506401180 : True := trivial
theorem tw13364247555786964156 : True := trivial
theorem tw2791146818333816019 : True := trivial
theorem tw18277220259959596465 : True := trivial
theorem tw16069456915747030455 : True := trivial
theorem tw12066646302777773855 : True := trivial
theorem tw10702102882244999667 : True := trivial
theorem tw9690073872827788543 : True := trivial
theorem tw69995430493896821 : True := trivial
theorem tw17036744071539419096 : True := trivial
theorem tw15630633530297786521 : True := trivial
theorem tw7843870615901454594 : True := trivial
theorem tw5982150389648779276 : True := trivial
theorem tw16743428827577892753 : True := trivial
theorem tw11194817466689469313 : True := trivial
theorem tw9693087805405979517 : True := trivial
theorem tw18193594736174775243 : True := trivial
theorem tw9368272003886206938 : True := trivial
theorem tw5345740813200158519 : True := trivial
theorem tw9974907699682404144 : True := trivial
theorem tw4061779586667398343 : True := trivial
theorem tw8525144318441121549 : True := trivial
theorem tw5026904603143193410 : True := trivial
theorem tw3269549622936974936 : True := trivial
theorem tw7383466922819347247 : True := trivial
theorem tw12438852744482100789 : True := trivial
theorem tw14146912827222531016 : True := trivial
theorem tw705614464706871028 : True := trivial
theorem tw17615969120643129875 : True := trivial
theorem tw16491738809602619345 : True := trivial
theorem tw8287925586298167565 : True := trivial
theorem tw8073908886150868386 : True := trivial
theorem tw10676494211188967455 : True := trivial
theorem tw15966324404689925951 : True := trivial
theorem tw10601313874151556489 : True := trivial
theorem tw9564812752456262200 : True := trivial
theorem tw175867871583210349 : True := trivial
theorem tw9643496590558471918 : True := trivial
theorem tw12356721104814363197 : True := trivial
theorem tw9773181907768743272 : True := trivial
theorem tw14262933350132513526 : True := trivial
theorem tw17505251581537069923 : True := trivial
theorem tw10883313555387499708 : True := trivial
theorem tw11304041720320558971 : True := trivial
theorem tw4489462798095017414 : True := trivial
theorem tw10372876405645812797 : True := trivial
theorem tw9859870083146981791 : True := trivial
theorem tw14726003650098202425 : True := trivial
theorem tw13621995913637967754 : True := trivial
theorem tw7351529114510660042 : True := trivial
theorem tw15130306369687750693 : True := trivial
theorem tw6786967612168800781 : True := trivial
theorem tw5230269776742887072 : True := trivial
theorem tw10193410139820363156 : True := trivial
theorem tw11116273132371693858 : True := trivial
theorem tw14007281954563547404 : True := trivial
theorem tw123111215161874780 : True := trivial
theorem tw8806894995864043476 : True := trivial
theorem tw4105156467587365367 : True := trivial
theorem tw6181692410250106979 : True := trivial
theorem tw12328109241456740299 : True := trivial
theorem tw6340716366496903717 : True := trivial
theorem tw13342650174906684284 : True := trivial
theorem tw13791379391923914911 : True := trivial
theorem tw14202437277625228298 : True := trivial
theorem tw15692628875698285579 : True := trivial
theorem tw10182510533951622544 : True := trivial
theorem tw18336886721016090412 : True := trivial
theorem tw11328717148215825293 : True := trivial
theorem tw7023106223382797343 : True := trivial
theorem tw6579484601361349225 : True := trivial
theorem tw7290501534801717446 : True := trivial
theorem tw7336946248030305814 : True := trivial
theorem tw10609428843484158523 : True := trivial
theorem tw7184890641987405425 : True := trivial
theorem tw16274329534696968090 : True := trivial
theorem tw12935179443516416754 : True := trivial
theorem tw5140497235983508331 : True := trivial
theorem tw13612445473930194723 : True := trivial
theorem tw1066925079118519654 : True := trivial
theorem tw8311542857614695682 : True := trivial
theorem tw9674671600702244242 : True := trivial
theorem tw7990518068206596757 : True := trivial
theorem tw6484015392448588396 : True := trivial
theorem tw17414517762436258183 : True := trivial
theorem tw1508320659539494920 : True := trivial
theorem tw5979233295252247645 : True := trivial
theorem tw5471574347014984010 : True := trivial
theorem tw14416966632179464223 : True := trivial
theorem tw1731887594995066408 : True := trivial
theorem tw15240273301694060522 : True := trivial
theorem tw14730715848814321948 : True := trivial
theorem tw18125934087633027436 : True := trivial
theorem tw18237569625807129217 : True := trivial
theorem tw9061202221313246690 : True := trivial
theorem tw11540845610898119186 : True := trivial
theorem tw6379534398832791831 : True := trivial
theorem tw7236082114901107231 : True := trivial
theorem tw346384763600597093 : True := trivial
theorem tw13430007999514716315 : True := trivial
theorem tw5128718971058437265 : True := trivial
theorem tw4454000134082066605 : True := trivial
theorem tw10025962566823239327 : True := trivial
theorem tw4664132766463784775 : True := trivial
theorem tw17449377412537969157 : True := trivial
theorem tw12315566853318643478 : True := trivial
theorem tw9040609685534379163 : True := trivial
theorem tw14841474785589213233 : True := trivial
theorem tw5325378501857689255 : True := trivial
theorem tw18245542231536492863 : True := trivial
theorem tw4256641406850833979 : True := trivial
theorem tw625895409160344954 : True := trivial
theorem tw13040489704264440535 : True := trivial
theorem tw7761515536421617958 : True := trivial
theorem tw6181344930624877610 : True := trivial
theorem tw17305294282995476296 : True := trivial
theorem tw10331684208139663804 : True := trivial
theorem tw2201375081795782523 : True := trivial
theorem tw2445140865481468338 : True := trivial
theorem tw13699566045552029752 : True := trivial
theorem tw3191848008515570394 : True := trivial
theorem tw2687931651891054171 : True := trivial
theorem tw66489006102515110 : True := trivial
theorem tw5328464313782485826 : True := trivial
theorem tw1464559281597093305 : True := trivial
theorem tw5636254567344182662 : True := trivial
theorem tw2737744863713738095 : True := trivial
theorem tw12782903245148790160 : True := trivial
theorem tw8121825820727831143 : True := trivial
theorem tw1046897063461232577 : True := trivial
theorem tw8957087978856992030 : True := trivial
theorem tw6344032613518549982 : True := trivial
theorem tw6127282377307187143 : True := trivial
theorem tw600397798997955378 : True := trivial
theorem tw17863852435618129309 : True := trivial
theorem tw15798144084868576005 : True := trivial
theorem tw14823852809733117148 : True := trivial
theorem tw14134255269658797662 : True := trivial
theorem tw13409020890884816671 : True := trivial
theorem tw12809254123221137293 : True := trivial
theorem tw11022495552240593828 : True := trivial
theorem tw10179673160384373534 : True := trivial
theorem tw9617616547176521384 : True := trivial
theorem tw7962583583197499151 : True := trivial
theorem tw7856722289336767411 : True := trivial
theorem tw7575708160884200643 : True := trivial
theorem tw2595306304908868969 : True := trivial
theorem tw18413136178168696289 : True := trivial
theorem tw18158236158231261745 : True := trivial
theorem tw17579278438069799176 : True := trivial
theorem tw13900878795584300207 : True := trivial
theorem tw12924136601568335405 : True := trivial
theorem tw10870860360433079504 : True := trivial
theorem tw10258633807918476665 : True := trivial
theorem tw10033850479068168623 : True := trivial
theorem tw3031371785057515284 : True := trivial
theorem tw13794604998122610100 : True := trivial
theorem tw12015992243965489243 : True := trivial
theorem tw10545244833756504468 : True := trivial
theorem tw13059306584284192189 : True := trivial
theorem tw9279506062988143674 : True := trivial
theorem tw7809765691947034327 : True := trivial
theorem tw5205432766805872036 : True := trivial
theorem tw16556937037787433617 : True := trivial
theorem tw7734492998386875766 : True := trivial
theorem tw7383145387226023249 : True := trivial
theorem tw5420294964283338155 : True := trivial
theorem tw4821453697003687529 : True := trivial
theorem tw4632344513471523179 : True := trivial
theorem tw7831521669703977055 : True := trivial
theorem tw465418630487083611 : True := trivial
theorem tw424871090245785700 : True := trivial
theorem tw1304717925136002927 : True := trivial
theorem tw3541312328011835874 : True := trivial
theorem tw9937757902560833323 : True := trivial
theorem tw522514582983336967 : True := trivial
theorem tw4996661729215439937 : True := trivial
theorem tw3651668166143141161 : True := trivial
theorem tw18269732300434641140 : True := trivial
theorem tw16957782904915359073 : True := trivial
theorem tw15309015439086172897 : True := trivial
theorem tw14768252079023202053 : True := trivial
theorem tw10868912989937390445 : True := trivial
theorem tw183267085683509658 : True := trivial
theorem tw14418934472424868120 : True := trivial
theorem tw17014002307350867007 : True := trivial
theorem tw12490703189174989606 : True := trivial
theorem tw13918691539872820915 : True := trivial
theorem tw3150591360373913280 : True := trivial
theorem tw2121887294260824502 : True := trivial
theorem tw13783982314861833715 : True := trivial
theorem tw4601418690812010711 : True := trivial
theorem tw7204051391240069609 : True := trivial
theorem tw9593448174364633727 : True := trivial
theorem tw6253372995550657977 : True := trivial
theorem tw6079531504047495687 : True := trivial
theorem tw15415397639968721783 : True := trivial
theorem tw1254135645399619788 : True := trivial
theorem tw1210477050624216031 : True := trivial
theorem tw7246926081072957796 : True := trivial
theorem tw6141958466056436938 : True := trivial
theorem tw17918731595228751264 : True := trivial
theorem tw16960728842414889776 : True := trivial
theorem tw12959562207316844193 : True := trivial
theorem tw13600915141181971031 : True := trivial
theorem tw2341726862095274966 : True := trivial
theorem tw15142531265973088814 : True := trivial
theorem tw5458372099047346347 : True := trivial
theorem tw11561834220207606538 : True := trivial
theorem tw1985274675474967393 : True := trivial
theorem tw4347137292517815337 : True := trivial
theorem tw1880143842471278353 : True := trivial
theorem tw8615720850650313233 : True := trivial
theorem tw6927017488852815647 : True := trivial
theorem tw5015176778083012706 : True := trivial
theorem tw16718163421302513040 : True := trivial
theorem tw13262983923050879016 : True := trivial
theorem tw2527053822910969410 : True := trivial
theorem tw13346930428620180881 : True := trivial
theorem tw6817707530571098755 : True := trivial
theorem tw4229963709926515320 : True := trivial
theorem tw372570073014967836 : True := trivial
theorem tw11688981301955081313 : True := trivial
theorem tw18289767875218844580 : True := trivial
theorem tw15248823433397124647 : True := trivial
theorem tw16976186873979735403 : True := trivial
theorem tw12931619525689794642 : True := trivial
theorem tw7747860659745031370 : True := trivial
theorem tw7708542350379002418 : True := trivial
theorem tw3930111360077716753 : True := trivial
theorem tw18107603315756180064 : True := trivial
theorem tw12281449840040871347 : True := trivial
theorem tw10087329720646860509 : True := trivial
theorem tw2382492322167374862 : True := trivial
theorem tw10256386411441557798 : True := trivial
theorem tw9175227809439305611 : True := trivial
theorem tw8803520099591800177 : True := trivial
theorem tw8601662615017601253 : True := trivial
theorem tw8207549455859064944 : True := trivial
theorem tw7807978389932575557 : True := trivial
theorem tw7659320520700088669 : True := trivial
theorem tw5735630570236950586 : True := trivial
theorem tw4727920720577402637 : True := trivial
theorem tw3207305721191766147 : True := trivial
theorem tw2767614240719289833 : True := trivial
theorem tw216158926086795790 : True := trivial
theorem tw18311324124150051773 : True := trivial
theorem tw18029117483783319497 : True := trivial
theorem tw17697796369020777600 : True := trivial
theorem tw17437390732388045990 : True := trivial
theorem tw16027528873007020659 : True := trivial
theorem tw15552159793137356616 : True := trivial
theorem tw14971252574272429415 : True := trivial
theorem tw14630117582143699747 : True := trivial
theorem tw13924660416797587419 : True := trivial
theorem tw1363686016858197808 : True := trivial
theorem tw13226833206374660533 : True := trivial
theorem tw12734336549348356788 : True := trivial
theorem tw1228790166644337560 : True := trivial
theorem tw1223745742223699406 : True := trivial
theorem tw11741918580612730762 : True := trivial
theorem tw1164429594220558249 : True := trivial
theorem tw11611224961057276595 : True := trivial
theorem tw11370268684683296699 : True := trivial
theorem tw1129047881922804409 : True := trivial
theorem tw7004683451600049562 : True := trivial
theorem tw6468474712257632648 : True := trivial
theorem tw4787958415307381390 : True := trivial
theorem tw4562429646015468697 : True := trivial
theorem tw4395567243408122132 : True := trivial
theorem tw1988294207759718101 : True := trivial
theorem tw15273746805940100752 : True := trivial
theorem tw14904296272429108295 : True := trivial
theorem tw10497113061955055993 : True := trivial
theorem tw9980767789842257941 : True := trivial
theorem tw9881974990498121512 : True := trivial
theorem tw9687453282412708072 : True := trivial
theorem tw9477364778139411913 : True := trivial
theorem tw924503743653488148 : True := trivial
theorem tw9014414747297604622 : True := trivial
theorem tw8724555940855826307 : True := trivial
theorem tw8642940997837961351 : True := trivial
theorem tw8517501710897700842 : True := trivial
theorem tw8445713607014714551 : True := trivial
theorem tw8217742398764144758 : True := trivial
theorem tw7986412331376227898 : True := trivial
theorem tw7964662051644605411 : True := trivial
theorem tw7792888156242153162 : True := trivial
theorem tw7772856142751723882 : True := trivial
theorem tw7697669699745646046 : True := trivial
theorem tw7591003848623993179 : True := trivial
theorem tw7556789358984651672 : True := trivial
theorem tw7531498452757633594 : True := trivial
theorem tw7234021835422384778 : True := trivial
theorem tw7203639259665647166 : True := trivial
theorem tw7001932671804858435 : True := trivial
theorem tw6956908445091105477 : True := trivial
theorem tw6891154057977917732 : True := trivial
theorem tw6860854114324739553 : True := trivial
theorem tw6657759233358708473 : True := trivial
theorem tw6569408530330651768 : True := trivial
theorem tw6478600376628014097 : True := trivial
theorem tw6467780426542064644 : True := trivial
theorem tw6430238957306911940 : True := trivial
theorem tw6329537301614415141 : True := trivial
theorem tw6316535871324987009 : True := trivial
theorem tw6276884018509972219 : True := trivial
theorem tw6201766966481036055 : True := trivial
theorem tw5975778768647462407 : True := trivial
theorem tw5971216192702116674 : True := trivial
theorem tw5887850209532510023 : True := trivial
theorem tw5840840180869434077 : True := trivial
theorem tw5837859562888539000 : True := trivial
theorem tw5810906224381282524 : True := trivial
theorem tw5777511573246548757 : True := trivial
theorem tw5730037189062602790 : True := trivial
theorem tw5551704327849718288 : True := trivial
theorem tw5091907591918971918 : True := trivial
theorem tw4927496761294116228 : True := trivial
theorem tw4811882328835170538 : True := trivial
theorem tw4793887082149947597 : True := trivial
theorem tw4730750878445362299 : True := trivial
theorem tw4660476320827963798 : True := trivial
theorem tw4523142755951121244 : True := trivial
theorem tw441177552857648786 : True := trivial
theorem tw4350884512671353810 : True := trivial
theorem tw4232518973763252075 : True := trivial
theorem tw4179690246857395496 : True := trivial
theorem tw4177535187734046612 : True := trivial
theorem tw4132499534209497083 : True := trivial
theorem tw3777694670016643037 : True := trivial
theorem tw3707323365333952127 : True := trivial
theorem tw3665202059434680709 : True := trivial
theorem tw3526301563121512359 : True := trivial
theorem tw3447242308417026309 : True := trivial
theorem tw3391366902148080223 : True := trivial
theorem tw3219837590169047859 : True := trivial
theorem tw3060770867945613701 : True := trivial
theorem tw2933644757141575419 : True := trivial
theorem tw2829597849042729800 : True := trivial
theorem tw2804921168362233923 : True := trivial
theorem tw2576615309115021506 : True := trivial
theorem tw2550101192098192838 : True := trivial
theorem tw2037518677745461029 : True := trivial
theorem tw1903068400676924581 : True := trivial
theorem tw18410813282971877579 : True := trivial
theorem tw18335348270226892963 : True := trivial
theorem tw18333326744384333972 : True := trivial
theorem tw18260590464796327534 : True := trivial
theorem tw18214064924823687947 : True := trivial
theorem tw18191074338093618212 : True := trivial
theorem tw1805036438167378005 : True := trivial
theorem tw18046205338796328166 : True := trivial
theorem tw17957586997340028168 : True := trivial
theorem tw17919373750753300298 : True := trivial
theorem tw17829125627131500314 : True := trivial
theorem tw17732492262327099572 : True := trivial
theorem tw17383658072278778347 : True := trivial
theorem tw17343161809624973686 : True := trivial
theorem tw1733358190782052672 : True := trivial
theorem tw17318673317079457764 : True := trivial
theorem tw17276252674101441275 : True := trivial
theorem tw17207796601729815717 : True := trivial
theorem tw1711239733658349044 : True := trivial
theorem tw16885379053910604414 : True := trivial
theorem tw16557656335607025129 : True := trivial
theorem tw16478796857054019708 : True := trivial
theorem tw16138783781342146796 : True := trivial
theorem tw1599709829766544441 : True := trivial
theorem tw15784543685413607451 : True := trivial
theorem tw15500958973802345580 : True := trivial
theorem tw15491290966592441326 : True := trivial
theorem tw15478597734914124676 : True := trivial
theorem tw15472741514179313805 : True := trivial
theorem tw1544766528295230410 : True := trivial
theorem tw15317189015397518194 : True := trivial
theorem tw15099661793649438041 : True := trivial
theorem tw14936824573435359795 : True := trivial
theorem tw14591101849549550829 : True := trivial
theorem tw1451710973134968933 : True := trivial
theorem tw14498891537802568778 : True := trivial
theorem tw14126844000526846292 : True := trivial
theorem tw14106924175503427885 : True := trivial
theorem tw1399665183164206025 : True := trivial
theorem tw13917343715190758281 : True := trivial
theorem tw13911208011540716879 : True := trivial
theorem tw13833008023571501589 : True := trivial
theorem tw13530390655042401008 : True := trivial
theorem tw13334989193672951795 : True := trivial
theorem tw13274080617647867042 : True := trivial
theorem tw13238140433448828382 : True := trivial
theorem tw13218556168328081224 : True := trivial
theorem tw12997541620905208745 : True := trivial
theorem tw1297496008851490162 : True := trivial
theorem tw12950348844343933060 : True := trivial
theorem tw12791001641629359738 : True := trivial
theorem tw12565684408609080849 : True := trivial
theorem tw1252732068263964595 : True := trivial
theorem tw12459664562214534592 : True := trivial
theorem tw12440826426070541043 : True := trivial
theorem tw12369461380471000539 : True := trivial
theorem tw12297700991395419406 : True := trivial
theorem tw12161698191574608743 : True := trivial
theorem tw12042187068062785402 : True := trivial
theorem tw11958156957937890614 : True := trivial
theorem tw11661825415886592652 : True := trivial
theorem tw11658599626812424081 : True := trivial
theorem tw11609343907124731950 : True := trivial
theorem tw11558512302602989142 : True := trivial
theorem tw11543651760816008696 : True := trivial
theorem tw11476376700303643087 : True := trivial
theorem tw11099424026905612073 : True := trivial
theorem tw1072432864016260133 : True := trivial
theorem tw10209169731344440265 : True := trivial
theorem tw10187066271848162098 : True := trivial
theorem tw10032533016382007469 : True := trivial
end left
section
local macro_rules | `(tactic| first | $_:tacticSeq | fail $_) => `(tactic| assumption)
set_option Elab.async true
set_option maxRecDepth 100000
set_option maxHeartbeats 8000000
theorem left : (PySem.Challenge.rw_rh0088_01.row.Holds → PySem.Challenge.rw_rh0088_01.row.Holds) ∧
    LeftO PySem.Challenge.rw_rh0088_01.row.prog Mine.hd.view_1 [Str.ofString "VOID", Str.ofString "Store"]
      (fun s => xlAt Mine.hd.view_1 [(Str.ofString "VOID", WData.tuple [WData.int 5, WData.int 0])] s && recOk (RowW.records PySem.Challenge.rw_rh0088_01.row.toRowW) s)
      (Hook.obs (kHook Mine.hd.heap_1 ads adsOf))
      (Hook.val (kHook Mine.hd.heap_1 ads adsOf)) 5604 := by
  refine ⟨?a, ?hl⟩
  case' a => intro h
  w_on
  o_head ()
end
theorem lawT (h : PySem.Challenge.rw_rh0088_01.row.wellSaid = true → PySem.Challenge.rw_rh0088_01.row.Holds) : PySem.Challenge.rw_rh0088_01.Holds := holds_law said h
set_option maxRecDepth 100000 in
set_option maxHeartbeats 8000000 in
theorem headT {d : DefRec} {kwd : List (Str × PySem.Expr)} (hdef : defOf Mine.hd.view_1 PySem.Challenge.rw_rh0088_01.row.name = some (d, kwd)) (hp : PySem.Challenge.rw_rh0088_01.row.prog.theDef PySem.Challenge.rw_rh0088_01.row.name = some (d.params, d.body, d.scope)) (hk : kwWritten? d.params.kwonlyargs d.params.kw_defaults = some kwd)
    (k1 : PySem.Challenge.rw_rh0088_01.row.wellSaid = true) (hw : PySem.Challenge.rw_rh0088_01.row.toRowW.promised)
    (hc : WalkO Mine.hd.view_1 [Str.ofString "VOID", Str.ofString "Store"] (XL Mine.hd.view_1 [(Str.ofString "VOID", WData.tuple [WData.int 5, WData.int 0])]) (Hook.says (kHook Mine.hd.heap_1 ads adsOf)) PySem.Challenge.rw_rh0088_01.row.toRowW d kwd fun f vs => PySem.call f vs) : PySem.Challenge.rw_rh0088_01.row.Holds :=
  holds_open Mine.left.2 (Hook.of (kHook Mine.hd.heap_1 ads adsOf)) (Hook.keeps (kHook Mine.hd.heap_1 ads adsOf)) (fun s e => xl_of s (Bool.and_eq_true_iff.mp e).1) XL.keeps hdef hp hk (fun s e => recFacts_of (Bool.and_eq_true_iff.mp e).2) (by rfl) k1 (by decide +kernel) ⟨rfl, rfl, rfl, rfl, rfl, by decide +kernel⟩ hw hc
section
local macro_rules | `(tactic| o_law) => `(tactic| refine lawT fun said => ?_)
local macro_rules | `(tactic| k_head) => `(tactic| refine headT (by rfl) (by rfl) (by rfl) (by assumption) ?hw ?hc)
set_option maxRecDepth 100000 in
set_option maxHeartbeats 8000000 in
open_top top for PySem.Challenge.rw_rh0088_01
end
end Mine
open PySem PySem.W PySem.Spec PySem.Calls PyProof.Rows
set_option Elab.async false
set_option maxRecDepth 100000
namespace Mine
local macro_rules | `(tactic| obtain $p:rcasesPatMed := $v:term) => `(tactic| first | (refine Classical.byContradiction fun nG => ?_; rcases $v:term with $p:rcasesPatMed; all_goals (refine nG ?_; clear nG)) | rcases $v:term with $p:rcasesPatMed)
local macro_rules | `(tactic| obtain $p:rcasesPatMed : $t:term := $v:term) => `(tactic| first | (refine Classical.byContradiction fun nG => ?_; rcases ($v : $t) with $p:rcasesPatMed; all_goals (refine nG ?_; clear nG)) | rcases ($v : $t) with $p:rcasesPatMed)
theorem roomN {a x c k lim : Nat} (h : a + c < lim) (e : x = a + k) (hk : Nat.ble k c = true) : x < lim := e ▸ Nat.lt_of_le_of_lt (Nat.add_le_add_left (Nat.le_of_ble_eq_true hk) a) h
theorem i63 {n : Nat} (h : n < 100000000) : (n : Int) < 2 ^ 63 := by omega
theorem memH {x : Addr × Obj} {l : List (Addr × Obj)} : x ∈ x :: l := .head _
theorem memT {x y : Addr × Obj} {l : List (Addr × Obj)} (h : x ∈ l) : x ∈ y :: l := .tail _ h
theorem nmNil {q : Addr} : q ∉ ([] : List (Addr × Obj)).map (·.1) := fun h => nomatch h
theorem nmCons {q X : Addr} {o : Obj} {l : List (Addr × Obj)} (h : q ≠ X) (t : q ∉ l.map (·.1)) : q ∉ ((X, o) :: l).map (·.1) := fun m => (List.mem_cons.mp m).elim h t
theorem News.swapIn {h₀ h : Heap} {L : Addr} {P X R pt nt : List (Addr × Obj)} (N : News h₀ L h (P ++ (X ++ (R ++ (pt ++ nt))))) : News h₀ L h (P ++ (R ++ (pt ++ (X ++ nt)))) := fun p hp => N p (by
  simp only [List.mem_append] at hp ⊢
  rcases hp with h | h | h | h | h <;> simp [h])
theorem News.sub {h₀ h : Heap} {L : Addr} {a b : List (Addr × Obj)} (N : News h₀ L h a) (s : ∀ p ∈ b, p ∈ a) : News h₀ L h b := fun p hp => N p (s p hp)
theorem News.app {h₀ h : Heap} {L : Addr} {a b : List (Addr × Obj)} (N : News h₀ L h a) (N' : News h₀ L h b) : News h₀ L h (a ++ b) := fun p hp => (List.mem_append.mp hp).elim (N p) (N' p)
/-- a call whose frame gets the written part `loc` as its ledger and all else as its ground -/
theorem enterR {prog : Program} {w : World} {A₀ A : Around} {s : Shared} {base h₀ : Heap} {outer : List Env} {L : Addr} {m mg mb : Str → Option Value} {env : Env} {K : Frag} {p : Program} {loose : List Str} {mean : ExcName → Option Value}
    {R : Result → Shared → Prop} {name qual : Str} {params : Arguments} {body : List Stmt} {scope : Scope} {dV kV doc pm cdv ct oc : Value} {an od : Option Addr} {osl : Array (Option Value)} {f : Addr} {args : Args} {binds : List (Str × Value)} {loc rest : List (Addr × Obj)}
    (B : Below A₀ base outer h₀) (F : Fr h₀ L s.heap m) (X₀ : K.In h₀) (N : News h₀ L s.heap loc) (NR : News h₀ L s.heap rest) (sep : ∀ q ∈ rest, q.1 ∉ loc.map (·.1)) (T : Top p loose mean mg mb h₀)
    (hA : A.frames = some (env :: outer)) (hf : env.frame = some L) (hke : env.scope.kind = .function)
    (ho : K.lookup f = some ⟨oc, od, .func (fnOf name qual params body scope dV kV doc pm an cdv ct), osl⟩) (hcd : codeIn K cdv qual = true) (hroom : A.depth < recursionLimit)
    (hbind : BindsTo s (fnOf name qual params body scope dV kV doc pm an cdv ct) args binds) (hloc : ∀ y ∈ binds, scope.names.lookup y.1 = some .local)
    (h : ∀ g L' h₁ tk, Fr h₀ L g m → Fr g L' h₁ (fun y => binds.reverse.lookup y) → News g L' h₁ loc → Below A base (env :: outer) g → K.In g → Top p loose mean mg mb g → (∀ b o, s.heap.get? b = some o → b ∉ loc.map (·.1) → g.get? b = some o) →
      wpAny (model prog w) (A.deeper (envOf qual scope L' f cdv)) (execs body (envOf qual scope L' f cdv))
        (fun fl s' => LeaveK h₀ L m g (fun r s' => News h₀ L s'.heap rest → R r s') (match fl with | .ret v => v | _ => .none) s')
        (fun e s' => wpAny (model prog w) (A.deeper (envOf qual scope L' f cdv)) (leaving (envOf qual scope L' f cdv) e) (fun _ s'' => R (.error e) s'') (fun e' s'' => R (.error e') s'') s')
        { s with heap := h₁, toks := tk })
    (hco : scope.isCoroutine = false) (hgen : scope.isGenerator = false) (hk : scope.kind = .function)
    (hcell : ∀ x ∈ scope.names, x.2 ≠ .cell) : codeAny (model prog w) A (.call (.ref f) args) R s := by
  obtain ⟨FG, BG, st, lv⟩ := groundX (R := fun r s' => News h₀ L s'.heap rest → R r s') B F N hA hf hke
  refine codeAny_call_def (fd := fnOf name qual params body scope dV kV doc pm an cdv ct) (body := body) (binds := binds) hroom ((X₀.keeps F.keep) _ _ ho) rfl (T.nolimit.keeps F.keep) (codeRec_of (X₀.keeps F.keep) hcd) rfl hbind hcell hloc (fun h₁ hns hk₁ => ?_) hco hgen hk
  have gr : ∀ b o, s.heap.get? b = some o → b ∉ loc.map (·.1) → (hideAll s.heap (loc.map (·.1))).get? b = some o := fun b o e n => hideAll_get _ e n
  refine wpAny_mono (h _ s.heap.objs.size h₁ _ FG ⟨hns, fun b o e => hk₁ b o (of_hideAll _ e), Nat.le_of_eq (hideAll_size _ _)⟩
    (fun q hq => ⟨hk₁ _ _ (N q hq).1, Nat.ne_of_lt (Heap.lt_size (N q hq).1), hideAll_none _ (List.mem_map_of_mem hq)⟩) BG (X₀.keeps st) (T.keeps st) gr) (fun fl s' hl => ?_) fun _ _ y => y
  have hl' := hl
  obtain ⟨L', m', news', F', N', k⟩ := hl'
  exact lv _ _ hl fun q hq => ⟨F'.keep _ _ (gr _ _ (NR q hq).1 (sep q hq)), (NR q hq).2.1, (NR q hq).2.2⟩
/-- what a frame hands back when it leaves: its ledger `loc'`, the rest as it was -/
noncomputable def LeaveM (h₀ : Heap) (L : Addr) (m : Str → Option Value) (g : Heap) (rest : List (Addr × Obj)) (Q : Value → Shared → Prop) (v : Value) (s' : Shared) : Prop :=
  ∃ L' m' loc', Fr g L' s'.heap m' ∧ News g L' s'.heap loc' ∧ (Fr h₀ L s'.heap m → News h₀ L s'.heap (loc' ++ rest) → Q v s')
theorem LeaveM.mk {h₀ : Heap} {L : Addr} {m : Str → Option Value} {g : Heap} {rest : List (Addr × Obj)} {Q : Value → Shared → Prop} {v : Value} {s' : Shared} {L' : Addr} {m' : Str → Option Value} {loc' : List (Addr × Obj)}
    (F : Fr g L' s'.heap m') (N : News g L' s'.heap loc') (k : Fr h₀ L s'.heap m → News h₀ L s'.heap (loc' ++ rest) → Q v s') : LeaveM h₀ L m g rest Q v s' := ⟨_, _, _, F, N, k⟩
/-- the same for a call by value; `rest` is what stands beside the written part -/
theorem enterM {prog : Program} {w : World} {A₀ : Around} {s : Shared} {base h₀ : Heap} {outer : List Env} {L : Addr} {m mg mb : Str → Option Value} {K : Frag} {p : Program} {loose : List Str} {mean : ExcName → Option Value}
    {dp un : Nat} {gd : Option (List Code)} {cn : Str} {cs : Scope} {a : Addr} {ccd : Value} {cl : List (Str × Addr)} {Q E : Value → Shared → Prop}
    {name qual : Str} {params : Arguments} {body : List Stmt} {scope : Scope} {dV kV doc pm cdv ct oc : Value} {an od : Option Addr} {osl : Array (Option Value)} {f : Addr} {vs : List Value} {binds : List (Str × Value)} {loc rest : List (Addr × Obj)}
    (B : Below A₀ base outer h₀) (F : Fr h₀ L s.heap m) (X₀ : K.In h₀) (N : News h₀ L s.heap loc) (NR : News h₀ L s.heap rest) (sep : ∀ q ∈ rest, q.1 ∉ loc.map (·.1)) (T : Top p loose mean mg mb h₀)
    (hke : cs.kind = .function) (hroom : dp < recursionLimit)
    (ho : K.lookup f = some ⟨oc, od, .func (fnOf name qual params body scope dV kV doc pm an cdv ct), osl⟩) (hcd : codeIn K cdv qual = true)
    (hbind : BindsTo s (fnOf name qual params body scope dV kV doc pm an cdv ct) ⟨vs, []⟩ binds) (hloc : ∀ y ∈ binds, scope.names.lookup y.1 = some .local)
    (h : ∀ g L' h₁ tk, Fr g L' h₁ (fun y => binds.reverse.lookup y) → News g L' h₁ loc → Below (ktrTop dp un gd cn cs L a ccd cl outer) base (envX cn cs L a ccd cl :: outer) g → K.In g → Top p loose mean mg mb g → (∀ b o, s.heap.get? b = some o → b ∉ loc.map (·.1) → g.get? b = some o) →
      wpAny (model prog w) (ktrTop (dp + 1) (un + 3) gd qual scope L' f cdv [] (envX cn cs L a ccd cl :: outer)) (execs body (envOf qual scope L' f cdv))
        (fun fl s' => LeaveM h₀ L m g rest Q (match fl with | .ret v => v | _ => .none) s')
        (fun _ _ => False)
        { s with heap := h₁, toks := tk })
    (hco : scope.isCoroutine = false) (hgen : scope.isGenerator = false) (hk : scope.kind = .function)
    (hcell : ∀ x ∈ scope.names, x.2 ≠ .cell) : wpAny (model prog w) (ktrTop dp un gd cn cs L a ccd cl outer) (call (.ref f) vs) Q E s := by
  refine wpAny_call (enterR B F X₀ N NR sep T rfl rfl hke ho hcd hroom hbind hloc (fun g L' h₁ tk FG F' N' B' X' T' hg => ?_) hco hgen hk hcell)
  refine wpAny_mono (h g L' h₁ tk F' N' B' X' T' hg) (fun fl s' hl => ?_) fun _ _ e => e.elim
  obtain ⟨L₁, m', loc', F₁, N₁, k⟩ := hl
  refine ⟨L₁, m', loc', F₁, N₁, fun kF kN kR => k kF (News.app kN kR)⟩
noncomputable def over (ps : List (Str × Value)) (m : Str → Option Value) : Str → Option Value := fun z => match ps.lookup z with | some v => some v | none => m z
noncomputable def Agree (m : Str → Option Value) (ps : List (Str × Value)) : Prop := ∀ q ∈ ps, m q.1 = some q.2
theorem mem_of_lookup {α : Type} {z : Str} {v : α} : ∀ {ps : List (Str × α)}, ps.lookup z = some v → (z, v) ∈ ps
  | [], h => by cases h
  | (x, u) :: r, h => by
    rw [List.lookup_cons] at h
    cases hx : z == x with
    | true => simp only [hx, Option.some.injEq] at h; rw [eq_of_beq hx, ← h]; exact .head _
    | false => simp only [hx] at h; exact .tail _ (mem_of_lookup h)
theorem Agree.form {m : Str → Option Value} {ps : List (Str × Value)} (h : Agree m ps) : m = over ps m := by
  funext z
  unfold over
  cases e : ps.lookup z with
  | none => rfl
  | some v => exact h _ (mem_of_lookup e)
theorem Agree.nil {m : Str → Option Value} : Agree m [] := fun _ h => nomatch h
theorem Agree.cons {m : Str → Option Value} {ps : List (Str × Value)} {x : Str} {v : Value} (h : m x = some v) (r : Agree m ps) : Agree m ((x, v) :: ps) := fun q hq => by
  rcases List.mem_cons.mp hq with rfl | hq
  · exact h
  · exact r q hq
theorem Fr.form {h₀ h : Heap} {L : Addr} {m : Str → Option Value} {ps : List (Str × Value)} (F : Fr h₀ L h m) (a : Agree m ps) : Fr h₀ L h (over ps m) := a.form ▸ F
noncomputable def tupO (c : Int × Int) (t1 t2 n : Nat) : Obj := { cls := .type "tuple", data := .seq #[.int c.1 t1, .int c.2 t2] n }
noncomputable def TupG (h : Heap) (v : Value) (c : Int × Int) : Prop := ∃ a t1 t2 n, v = .ref a ∧ h.get? a = some (tupO c t1 t2 n)
theorem TupG.keep {h h' : Heap} {v c} (t : TupG h v c) (k : ∀ b o, h.get? b = some o → h'.get? b = some o) : TupG h' v c := by
  obtain ⟨a, t1, t2, n, e, g⟩ := t
  exact ⟨a, t1, t2, n, e, k _ _ g⟩
section
variable {prog : Program} {w : World} {A : Around} {E : Value → Shared → Prop} {s : Shared} {a b : Addr} {c d : Int × Int} {t1 t2 n t3 t4 k : Nat}
theorem readsTup {h : Heap} (ha : h.get? a = some (tupO c t1 t2 n)) : Reads h (.ref a) (.tuple [.int c.1, .int c.2]) [] :=
  Reads.tuple (as := []) ha rfl rfl (ReadsAll.cons (as := []) (bs := []) (Reads.int _ _) (ReadsAll.cons (as := []) (bs := []) (Reads.int _ _) .nil))
theorem shapedTup : SeqAt.shaped (.tuple [.int c.1, .int c.2]) = true := by
  simp [SeqAt.shaped, PyData.canLay0, PyData.canLayAll0, PyData.depth, PyData.depthAll]
theorem sameTup : PySem.Spec.same (.tuple [.int c.1, .int c.2]) (.tuple [.int d.1, .int d.2]) = decide (c = d) := by
  simp only [PySem.Spec.same, PySem.Spec.sameAll, Bool.and_true]
  refine Classical.byContradiction fun nGo => ?_
  obtain ⟨c1, c2⟩ := c
  obtain ⟨d1, d2⟩ := d
  refine nGo ?_; clear nGo
  by_cases h1 : c1 = d1 <;> by_cases h2 : c2 = d2 <;> simp [h1, h2]
theorem eq_tup {Q : Value → Shared → Prop} (ha : s.heap.get? a = some (tupO c t1 t2 n)) (hb : s.heap.get? b = some (tupO d t3 t4 k)) (hu : A.units + 64 < cLine) (h : Q (.bool (decide (c = d))) s) :
    wpAny (model prog w) A (compareOp .Eq (.ref a) (.ref b)) Q E s :=
  eq_dataH_same (readsTup ha) (readsTup hb) shapedTup shapedTup hu (by simp [SeqAt.noMix, SeqAt.noMixAll]) (by rw [sameTup]; exact h)
theorem item_tup0 {value slice : PySem.Expr} {u : Tok} {Q : Value → Shared → Prop} (ht : s.heap.get? a = some (tupO c t1 t2 n)) (h : Q (.int c.1 t1) s)
    (hs : subscripted slice false (.ref a) (.int 0 u) = operate [.ref a, .int 0 u] (getItem (.ref a) (.int 0 u)) := by with_unfolding_all rfl) :
    wpAny (model prog w) A (subscriptTail value slice (.ref a) (.int 0 u)) Q E s :=
  item_tupleT (l := [.int c.1 t1, .int c.2 t2]) ⟨_, ht, rfl, _, rfl⟩ (by decide) (by decide) (by rfl) rfl h hs
theorem item_tup1 {value slice : PySem.Expr} {u : Tok} {Q : Value → Shared → Prop} (ht : s.heap.get? a = some (tupO c t1 t2 n)) (h : Q (.int c.2 t2) s)
    (hs : subscripted slice false (.ref a) (.int 1 u) = operate [.ref a, .int 1 u] (getItem (.ref a) (.int 1 u)) := by with_unfolding_all rfl) :
    wpAny (model prog w) A (subscriptTail value slice (.ref a) (.int 1 u)) Q E s :=
  item_tupleT (l := [.int c.1 t1, .int c.2 t2]) ⟨_, ht, rfl, _, rfl⟩ (by decide) (by decide) (by rfl) rfl h hs
theorem item_list {value slice : PySem.Expr} {l : Addr} {vs : List Value} {k : Int} {u : Tok} {v : Value} {Q : Value → Shared → Prop} (hl : s.heap.IsList l vs.toArray) (h0 : 0 ≤ k) (hhi : k < 2 ^ 63) (hx : vs[k.toNat]? = some v) (h : Q v s)
    (hs : subscripted slice false (.ref l) (.int k u) = operate [.ref l, .int k u] (getItem (.ref l) (.int k u)) := by with_unfolding_all rfl) :
    wpAny (model prog w) A (subscriptTail value slice (.ref l) (.int k u)) Q E s := item_litK hl h0 hhi hx h hs
end
theorem instG {h : Heap} {x C dx : Addr} {od : Obj} (h1 : h.get? x = some (instObj C dx)) (h2 : h.get? dx = some od) : InstAt h x (instObj C dx) C (some od) := ⟨h1, rfl, rfl, h2⟩
theorem isListG {h : Heap} {l : Addr} {vs : List Value} {n : Nat} (e : h.get? l = some (listOf vs.toArray n)) : h.IsList l vs.toArray := ⟨_, e, rfl, _, rfl⟩
/-- the store's own dict: what Cells.__init__ lays -/
noncomputable def stE (P : Params) (bk H S Tr : Addr) (k u : Nat → Tok) : List DictEntry := [
  ⟨PyData.keyHash P (Str.ofString "symbols"), .str (Str.ofString "symbols") (k 0), .ref bk⟩,
  ⟨PyData.keyHash P (Str.ofString "max_heap"), .str (Str.ofString "max_heap") (k 1), .int 100000 (u 0)⟩,
  ⟨PyData.keyHash P (Str.ofString "heap"), .str (Str.ofString "heap") (k 2), .ref H⟩,
  ⟨PyData.keyHash P (Str.ofString "stack"), .str (Str.ofString "stack") (k 3), .ref S⟩,
  ⟨PyData.keyHash P (Str.ofString "trail"), .str (Str.ofString "trail") (k 4), .ref Tr⟩,
  ⟨PyData.keyHash P (Str.ofString "hb"), .str (Str.ofString "hb") (k 5), .int 0 (u 1)⟩,
  ⟨PyData.keyHash P (Str.ofString "bb"), .str (Str.ofString "bb") (k 6), .int 0 (u 2)⟩]
/-- the book's own dict: what Symbols.__init__ lays -/
noncomputable def bkE (P : Params) (TX AN FL FN : Addr) (k : Nat → Tok) : List DictEntry := [
  ⟨PyData.keyHash P (Str.ofString "texts"), .str (Str.ofString "texts") (k 0), .ref TX⟩,
  ⟨PyData.keyHash P (Str.ofString "atom_numbers"), .str (Str.ofString "atom_numbers") (k 1), .ref AN⟩,
  ⟨PyData.keyHash P (Str.ofString "functors"), .str (Str.ofString "functors") (k 2), .ref FL⟩,
  ⟨PyData.keyHash P (Str.ofString "functor_numbers"), .str (Str.ofString "functor_numbers") (k 3), .ref FN⟩]
noncomputable def Sto (P : Params) (h : Heap) (st bk H S : Addr) : Prop := ∃ dst Tr k u, h.get? st = some (instObj 381 dst) ∧ h.get? dst = some (dictOf (stE P bk H S Tr k u) 7)
noncomputable def Bok (P : Params) (h : Heap) (bk TX AN FL FN : Addr) : Prop := ∃ dbk k, h.get? bk = some (instObj 154 dbk) ∧ h.get? dbk = some (dictOf (bkE P TX AN FL FN k) 4)
noncomputable def LstG (h : Heap) (l : Addr) (vs : List Value) : Prop := ∃ n, h.get? l = some (listOf vs.toArray n)
/-- all objects stay but lists -/
noncomputable def ButLists (h g : Heap) : Prop := ∀ b o, h.get? b = some o → o.cls ≠ .type "list" → g.get? b = some o
theorem ButLists.of {h₀ h g : Heap} {L : Addr} {loc : List (Addr × Obj)} (N : News h₀ L h loc) (hl : ∀ q ∈ loc, q.2.cls = .type "list") (hg : ∀ b o, h.get? b = some o → b ∉ loc.map (·.1) → g.get? b = some o) : ButLists h g := fun b o e n => hg b o e fun hm => by
  obtain ⟨q, hq, rfl⟩ := List.mem_map.mp hm
  have := (N q hq).1
  rw [e] at this
  cases this
  exact n (hl q hq)
theorem Sto.but {P : Params} {h g : Heap} {st bk H S : Addr} (x : Sto P h st bk H S) (k : ButLists h g) : Sto P g st bk H S := by
  obtain ⟨dst, Tr, kk, u, a, b⟩ := x
  exact ⟨dst, Tr, kk, u, k _ _ a (by intro e; cases e), k _ _ b (by intro e; injection e with e; simp at e)⟩
theorem Bok.but {P : Params} {h g : Heap} {bk TX AN FL FN : Addr} (x : Bok P h bk TX AN FL FN) (k : ButLists h g) : Bok P g bk TX AN FL FN := by
  obtain ⟨dst, kk, a, b⟩ := x
  exact ⟨dst, kk, k _ _ a (by intro e; cases e), k _ _ b (by intro e; injection e with e; simp at e)⟩
theorem TupG.but {h g : Heap} {v c} (x : TupG h v c) (k : ButLists h g) : TupG g v c := by
  obtain ⟨a, t1, t2, n, e, hg⟩ := x
  exact ⟨a, t1, t2, n, e, k _ _ hg (by intro e; injection e with e; simp at e)⟩
theorem Sto.keep {P : Params} {h g : Heap} {st bk H S : Addr} (x : Sto P h st bk H S) (k : ∀ b o, h.get? b = some o → g.get? b = some o) : Sto P g st bk H S := x.but fun b o e _ => k b o e
theorem Bok.keep {P : Params} {h g : Heap} {bk TX AN FL FN : Addr} (x : Bok P h bk TX AN FL FN) (k : ∀ b o, h.get? b = some o → g.get? b = some o) : Bok P g bk TX AN FL FN := x.but fun b o e _ => k b o e
theorem News.loc {h₀ h : Heap} {L : Addr} {pre loc post : List (Addr × Obj)} (N : News h₀ L h (pre ++ (loc ++ post))) : News h₀ L h loc := News.sub N fun p hp => List.mem_append_right _ (List.mem_append_left _ hp)
theorem News.others {h₀ h : Heap} {L : Addr} {pre loc post : List (Addr × Obj)} (N : News h₀ L h (pre ++ (loc ++ post))) : News h₀ L h (pre ++ post) := News.sub N fun p hp => by
  rcases List.mem_append.mp hp with hp | hp
  · exact List.mem_append_left _ hp
  · exact List.mem_append_right _ (List.mem_append_right _ hp)
theorem News.join {h₀ h : Heap} {L : Addr} {pre loc post : List (Addr × Obj)} (N : News h₀ L h (loc ++ (pre ++ post))) : News h₀ L h (pre ++ (loc ++ post)) := News.sub N fun p hp => by
  rcases List.mem_append.mp hp with hp | hp
  · exact List.mem_append_right _ (List.mem_append_left _ hp)
  · rcases List.mem_append.mp hp with hp | hp
    · exact List.mem_append_left _ hp
    · exact List.mem_append_right _ (List.mem_append_right _ hp)
section
variable {prog : Program} {w : World} {A : Around} {E : Value → Shared → Prop} {s : Shared} {h₀ : Heap} {L D : Addr} {m : Str → Option Value} {news news' : List (Addr × Obj)} {vs : List Value} {n : Nat} {k : Int} {t : Tok} {v : Value}
theorem set_any {Q : Unit → Shared → Prop} (F : Fr h₀ L s.heap m) (N : News h₀ L s.heap news) (U : Upd D (listOf vs.toArray n) (listOf (vs.set k.toNat v).toArray n) news news') (h0 : 0 ≤ k) (h1 : k < vs.length) (hfit : k < 2 ^ 63)
    (h : ∀ h', Fr h₀ L h' m → News h₀ L h' news' → Q () { s with heap := h' }) :
    wpAny (model prog w) A (setItem (.ref D) (.int k t) v) Q E s := by
  obtain ⟨pre, post, rfl, rfl, a, b⟩ := U.split
  have z := N (D, listOf vs.toArray n) (List.mem_append.mpr (.inr (.head _)))
  refine ki_setAt z.1 h0 hfit (by rw [List.size_toArray]; omega) (h _ (F.change (Heap.SameBut.update ..) z.2.1 z.2.2) (ki_turn _ N a b ?_ ?_))
  · show vs.toArray.setIfInBounds k.toNat v = (vs.set k.toNat v).toArray
    apply Array.toList_inj.mp
    simp
  · simp
theorem len_any {Q : Value → Shared → Prop} (hl : s.heap.IsList D vs.toArray) (hfit : (vs.length : Int) < 2 ^ 63) (h : Q (.int (vs.length : Int) (s.toks + 1)) { s with toks := s.toks + 1 + 1 }) :
    wpAny (model prog w) A (call (.builtin "len") [.ref D]) Q E s := call_len_list hl (by rw [List.size_toArray]; exact hfit) (by rw [List.size_toArray]; exact h)
theorem append_any {x : Value} {Q : Value → Shared → Prop} (F : Fr h₀ L s.heap m) (N : News h₀ L s.heap news) (U : Upd D (listOf vs.toArray n) (listOf (vs ++ [x]).toArray (n + 1)) news news')
    (h : ∀ h', Fr h₀ L h' m → News h₀ L h' news' → Q .none { s with heap := h' }) (hsz : vs.length ≤ 1000000) : wpAny (model prog w) A (call (.builtin "list.append") [.ref D, x]) Q E s :=
  append_K (its := vs.toArray) F N (by rw [List.push_toArray]; exact U) h (by rw [List.size_toArray, sizeLine_eq]; omega)
end
theorem sep_nil {P : Addr × Obj → Prop} : ∀ x ∈ ([] : List (Addr × Obj)), P x := fun _ h => nomatch h
theorem sep_cons {P : Addr × Obj → Prop} {q : Addr × Obj} {l : List (Addr × Obj)} (h : P q) (t : ∀ x ∈ l, P x) : ∀ x ∈ q :: l, P x := List.forall_mem_cons.mpr ⟨h, t⟩
theorem sep_app {P : Addr × Obj → Prop} {l l' : List (Addr × Obj)} (h : ∀ x ∈ l, P x) (h' : ∀ x ∈ l', P x) : ∀ x ∈ l ++ l', P x := fun x hx => (List.mem_append.mp hx).elim (h x) (h' x)
theorem News.ne {h₀ h : Heap} {L a b : Addr} {l : List (Addr × Obj)} {o o' : Obj} (N : News h₀ L h l) (h1 : (a, o) ∈ l) (h2 : (b, o') ∈ l) (hn : o.cls ≠ o'.cls) : ¬ a = b := fun e => by
  subst e
  have p := (N _ h1).1
  have q := (N _ h2).1
  rw [p] at q
  cases q
  exact hn rfl
theorem ne_typ {a b : String} (h : (a == b) = false) : Value.type a ≠ Value.type b := by
  intro e
  cases e
  simp at h
theorem News.at0 {h₀ h : Heap} {L : Addr} {q : Addr × Obj} {post : List (Addr × Obj)} (N : News h₀ L h (q :: post)) : News h₀ L h ([] ++ ([q] ++ post)) := N
theorem News.at1 {h₀ h : Heap} {L : Addr} {q : Addr × Obj} {x0 : Addr × Obj} {post : List (Addr × Obj)} (N : News h₀ L h (x0 :: q :: post)) : News h₀ L h ([x0] ++ ([q] ++ post)) := N
theorem News.at2 {h₀ h : Heap} {L : Addr} {q : Addr × Obj} {x0 x1 : Addr × Obj} {post : List (Addr × Obj)} (N : News h₀ L h (x0 :: x1 :: q :: post)) : News h₀ L h ([x0, x1] ++ ([q] ++ post)) := N
theorem News.at3 {h₀ h : Heap} {L : Addr} {q : Addr × Obj} {x0 x1 x2 : Addr × Obj} {post : List (Addr × Obj)} (N : News h₀ L h (x0 :: x1 :: x2 :: q :: post)) : News h₀ L h ([x0, x1, x2] ++ ([q] ++ post)) := N
theorem News.at4 {h₀ h : Heap} {L : Addr} {q : Addr × Obj} {x0 x1 x2 x3 : Addr × Obj} {post : List (Addr × Obj)} (N : News h₀ L h (x0 :: x1 :: x2 :: x3 :: q :: post)) : News h₀ L h ([x0, x1, x2, x3] ++ ([q] ++ post)) := N
theorem News.at5 {h₀ h : Heap} {L : Addr} {q : Addr × Obj} {x0 x1 x2 x3 x4 : Addr × Obj} {post : List (Addr × Obj)} (N : News h₀ L h (x0 :: x1 :: x2 :: x3 :: x4 :: q :: post)) : News h₀ L h ([x0, x1, x2, x3, x4] ++ ([q] ++ post)) := N
theorem News.at6 {h₀ h : Heap} {L : Addr} {q : Addr × Obj} {x0 x1 x2 x3 x4 x5 : Addr × Obj} {post : List (Addr × Obj)} (N : News h₀ L h (x0 :: x1 :: x2 :: x3 :: x4 :: x5 :: q :: post)) : News h₀ L h ([x0, x1, x2, x3, x4, x5] ++ ([q] ++ post)) := N
theorem range0_size {k : Nat} : Builtin.Range.rangeSize 0 (k : Int) 1 = (k : Int) := by
  unfold Builtin.Range.rangeSize
  (repeat' split) <;> omega
theorem range0_small {k : Nat} (h : k ≤ 1000) : Builtin.Range.small 0 (k : Int) 1 = true := by
  unfold Builtin.Range.small
  rw [range0_size, if_pos (by decide : (1 : Int) > 0)]
  simp only [Builtin.Range.rangeFitsLong, Bool.and_eq_true, Bool.or_eq_true, decide_eq_true_eq]
  omega
noncomputable def Stop (P : Prop) : Prop := P
theorem stopHere {P : Prop} (h : Stop P) : P := h
noncomputable def TurnJ (h₀ : Heap) (L : Addr) (own : List (Addr × Obj)) (I : Addr) (J : (Str → Option Value) → List (Addr × Obj) → Prop) (s₁ : Shared) (Q : Flow → Shared → Prop) (f : Flow) (s₂ : Shared) : Prop := match f with
  | .ret v => Q (.ret v) s₂
  | .brk => Q .next s₂
  | _ => ∃ h' tk m' news', s₂ = { s₁ with heap := h', toks := tk } ∧ Fr h₀ L h' m' ∧ News h₀ L h' (own ++ news') ∧ (∀ p ∈ news', ¬ p.1 = I) ∧ J m' news'
section
variable {prog : Program} {w : World} {A : Around} {E : Value → Shared → Prop} {Q : Flow → Shared → Prop} {s : Shared} {env : Env} {h₀ : Heap} {x : Str} {body : List Stmt}
theorem iter_rangeJ {r : Addr} {a₀ b₀ c₀ : Int} {t₀ u₀ v₀ : Tok} {n : Nat} {m₀ : Str → Option Value} {news : List (Addr × Obj)} (J : Nat → (Str → Option Value) → List (Addr × Obj) → Prop)
    (hh : A.handled = none) (hr : IsRange s.heap r a₀ b₀ c₀ t₀ u₀ v₀) (hsmall : Builtin.Range.small a₀ b₀ c₀ = true) (hn : Builtin.Range.rangeSize a₀ b₀ c₀ = (n : Int)) (F : Fr h₀ env.locals s.heap m₀) (N : News h₀ env.locals s.heap news) (h0 : J 0 m₀ news)
    (turn : ∀ (i : Nat) t m₁ news₁ h tk I oI, i < n → J i m₁ news₁ → (∀ p ∈ news₁, ¬ p.1 = I) → oI.cls = .type "range_iterator" →
      Fr h₀ env.locals h (fun y => if y = x then some (.int (a₀ + (i : Int) * c₀) t) else m₁ y) → News h₀ env.locals h ((I, oI) :: news₁) →
      wpAny (model prog w) A (execs body env) (TurnJ h₀ env.locals [(I, oI)] I (J (i + 1)) s Q) E { s with heap := h, toks := tk })
    (done : ∀ m₁ news₁ h tk, J n m₁ news₁ → Fr h₀ env.locals h m₁ → News h₀ env.locals h news₁ → Q .next { s with heap := h, toks := tk }) :
    wpAny (model prog w) A (pyIter (.ref r)) (fun it s₂ => LoopAtV prog w A h₀ env x body Q E it s₂) E s := by
  refine wpAny_pyIter_range hr hsmall ?_
  have W := Walks.range (prog := prog) (w := w) hh s.heap.objs.size a₀ c₀ n
  refine ⟨_, _, _, _, _, _, m₀, news, J, rfl, W, ?_, ?_, ?_, (by show IsRangeIter _ _ _ _ _; rw [hn]; simpa using Heap.get?_push_size _ rfl), F.push _, (fun p hp => ⟨Heap.get?_push_of_some _ (N p hp).1, (N p hp).2⟩), h0, ?_, ?_⟩
  · intro hm
    exact absurd F.ns.lt ((List.mem_singleton.mp hm) ▸ Nat.lt_irrefl _)
  · intro b hb
    rw [List.mem_singleton.mp hb]
    exact next_is_new F
  · intro p hp hI
    exact absurd (Heap.lt_size (N p hp).1) ((List.mem_singleton.mp hI) ▸ Nat.lt_irrefl _)
  · rintro i v m₁ news₁ s₁ own ⟨hh', tk', rfl⟩ hi ⟨t, rfl⟩ hJ hoff hown hget hall st F₁ N₁
    have hI : ∃ oI, hh'.get? s.heap.objs.size = some oI ∧ oI.cls = .type "range_iterator" := ⟨_, st, rfl⟩
    obtain ⟨oI, eI, cI⟩ := hI
    have hmem : (s.heap.objs.size, oI) ∈ own := hall _ (List.mem_singleton.mpr rfl) (next_is_new F) _ eI
    have hone : ∀ q ∈ own, q = (s.heap.objs.size, oI) := fun q hq => by
      have e1 := List.mem_singleton.mp (hown q hq)
      have e2 := hget q hq
      obtain ⟨q1, q2⟩ := q
      dsimp only at e1 e2
      subst e1
      rw [eI] at e2
      cases e2
      rfl
    have N₂ : News h₀ env.locals hh' ((s.heap.objs.size, oI) :: news₁) := News.sub N₁ fun p hp => by
      rcases List.mem_cons.mp hp with rfl | hp
      · exact List.mem_append_left _ hmem
      · exact List.mem_append_right _ hp
    refine wpAny_mono (turn i t m₁ news₁ hh' tk' _ oI hi hJ (fun p hp e => hoff p hp (List.mem_singleton.mpr e)) cI F₁ N₂) (fun f s₂ z => ?_) fun _ _ e => e
    have fin : (∃ h' tk m' news', s₂ = { s with heap := h', toks := tk } ∧ Fr h₀ env.locals h' m' ∧ News h₀ env.locals h' ([(s.heap.objs.size, oI)] ++ news') ∧ (∀ p ∈ news', ¬ p.1 = s.heap.objs.size) ∧ J (i + 1) m' news') → LoopStepU h₀ env.locals [s.heap.objs.size] own (J (i + 1)) { s with heap := hh', toks := tk' } .next s₂ := by
      rintro ⟨h', tk, m', news', e, F', N', hne, hj⟩
      refine ⟨rfl, h', tk, m', news', e, F', fun p hp => ?_, fun p hp hm => hne p hp (List.mem_singleton.mp hm), hj⟩
      rcases List.mem_append.mp hp with hp | hp
      · exact N' p (List.mem_append_left _ (by rw [hone p hp]; exact .head _))
      · exact N' p (List.mem_append_right _ hp)
    cases f with
    | ret v => exact .ret z
    | brk => exact .brk z
    | next => exact .next (fin z)
    | cont => exact .cont (fin z)
  · intro h' tk m' news' F' N' _ hA
    exact done m' news' h' tk hA F' N'
/-- over a list that stands in the ground, or in the ledger as it is -/
theorem iter_listJ {l : Addr} {vs : List Value} {k : Nat} {m₀ : Str → Option Value} {news : List (Addr × Obj)} (J : Nat → (Str → Option Value) → List (Addr × Obj) → Prop)
    (hh : A.handled = none) (hmem : h₀.get? l = some (listOf vs.toArray k) ∨ ∀ i m news, J i m news → (l, listOf vs.toArray k) ∈ news) (F : Fr h₀ env.locals s.heap m₀) (N : News h₀ env.locals s.heap news) (h0 : J 0 m₀ news)
    (turn : ∀ (i : Nat) v m₁ news₁ h tk I oI, vs[i]? = some v → J i m₁ news₁ → (∀ p ∈ news₁, ¬ p.1 = I) → oI.cls = .type "list_iterator" →
      Fr h₀ env.locals h (fun y => if y = x then some v else m₁ y) → News h₀ env.locals h ((I, oI) :: news₁) →
      wpAny (model prog w) A (execs body env) (TurnJ h₀ env.locals [(I, oI)] I (J (i + 1)) s Q) E { s with heap := h, toks := tk })
    (done : ∀ m₁ news₁ h tk, J vs.length m₁ news₁ → Fr h₀ env.locals h m₁ → News h₀ env.locals h news₁ → Q .next { s with heap := h, toks := tk }) :
    wpAny (model prog w) A (pyIter (.ref l)) (fun it s₂ => LoopAtV prog w A h₀ env x body Q E it s₂) E s := by
  have hl : s.heap.get? l = some (listOf vs.toArray k) := hmem.elim (fun e => F.keep _ _ e) fun e => (N _ (e _ _ _ h0)).1
  have hlL : ¬ l = env.locals := fun e => hmem.elim (fun e' => absurd (Nat.lt_of_lt_of_le (Heap.lt_size e') F.above) (e ▸ Nat.lt_irrefl _)) fun e' => (N _ (e' _ _ _ h0)).2.1 e
  have hls : s.heap.IsList l vs.toArray := ⟨_, hl, rfl, _, rfl⟩
  have hlt : l < s.heap.objs.size := Heap.lt_size hl
  have hne : l ≠ s.heap.objs.size := Nat.ne_of_lt hlt
  refine wpAny_pyIter_list hls ?_
  have W := Walks.list (prog := prog) (w := w) hh s.heap.objs.size l hne vs.toArray
  have hlen : vs.toArray.size = vs.length := by simp
  rw [hlen] at W
  refine ⟨_, _, _, vs.length, _, _, m₀, news, J, rfl, W, ?_, ?_, ?_, ⟨⟨_, Heap.get?_push_size _ rfl, rfl, rfl⟩, hls.at fun o e => Heap.get?_push_of_some _ e⟩, F.push _, (fun p hp => ⟨Heap.get?_push_of_some _ (N p hp).1, (N p hp).2⟩), h0, ?_, ?_⟩
  · intro hm
    rcases List.mem_cons.mp hm with e | hm
    · exact absurd F.ns.lt (e ▸ Nat.lt_irrefl _)
    · exact hlL (List.mem_singleton.mp hm).symm
  · intro b hb
    rw [List.mem_singleton.mp hb]
    exact next_is_new F
  · intro p hp hI
    exact absurd (Heap.lt_size (N p hp).1) ((List.mem_singleton.mp hI) ▸ Nat.lt_irrefl _)
  · rintro i v m₁ news₁ s₁ own ⟨hh', tk', rfl⟩ hi hP hJ hoff hown hget hall st F₁ N₁
    have hx : vs[i]? = some v := by simpa using hP
    obtain ⟨oI, eI, cI, _⟩ := st.1
    have hm : (s.heap.objs.size, oI) ∈ own := hall _ (.head _) (next_is_new F) _ eI
    have hone : ∀ q ∈ own, q = (s.heap.objs.size, oI) ∨ (q = (l, listOf vs.toArray k) ∧ ∀ i m news, J i m news → (l, listOf vs.toArray k) ∈ news) := fun q hq => by
      have e2 := hget q hq
      have e3 := (N₁ q (List.mem_append_left _ hq)).2.2
      obtain ⟨q1, q2⟩ := q
      rcases List.mem_cons.mp (hown _ hq) with e1 | e1
      · left
        dsimp only at e1 e2
        subst e1
        rw [eI] at e2
        cases e2
        rfl
      · right
        have e1 := List.mem_singleton.mp e1
        dsimp only at e1 e2 e3
        subst e1
        rcases hmem with z | z
        · rw [z] at e3; cases e3
        · have y := (N₁ _ (List.mem_append_right _ (z _ _ _ hJ))).1
          dsimp only at y
          rw [y] at e2
          cases e2
          exact ⟨rfl, z⟩
    have N₂ : News h₀ env.locals hh' ((s.heap.objs.size, oI) :: news₁) := News.sub N₁ fun p hp => by
      rcases List.mem_cons.mp hp with rfl | hp
      · exact List.mem_append_left _ hm
      · exact List.mem_append_right _ hp
    refine wpAny_mono (turn i v m₁ news₁ hh' tk' _ oI hx hJ (fun p hp e => hoff p hp (List.mem_singleton.mpr e)) cI F₁ N₂) (fun f s₂ z => ?_) fun _ _ e => e
    have fin : (∃ h' tk m' news', s₂ = { s with heap := h', toks := tk } ∧ Fr h₀ env.locals h' m' ∧ News h₀ env.locals h' ([(s.heap.objs.size, oI)] ++ news') ∧ (∀ p ∈ news', ¬ p.1 = s.heap.objs.size) ∧ J (i + 1) m' news') → LoopStepU h₀ env.locals [s.heap.objs.size] own (J (i + 1)) { s with heap := hh', toks := tk' } .next s₂ := by
      rintro ⟨h', tk, m', news', e, F', N', hne, hj⟩
      refine ⟨rfl, h', tk, m', news', e, F', fun p hp => ?_, fun p hp hm => hne p hp (List.mem_singleton.mp hm), hj⟩
      rcases List.mem_append.mp hp with hp | hp
      · rcases hone p hp with rfl | ⟨rfl, z⟩
        · exact N' _ (List.mem_append_left _ (.head _))
        · exact N' _ (List.mem_append_right _ (z _ _ _ hj))
      · exact N' p (List.mem_append_right _ hp)
    cases f with
    | ret v => exact .ret z
    | brk => exact .brk z
    | next => exact .next (fin z)
    | cont => exact .cont (fin z)
  · intro h' tk m' news' F' N' _ hA
    exact done m' news' h' tk hA F' N'
end
section
variable {prog : Program} {w : World} {A : Around} {E : Value → Shared → Prop} {Q : Flow → Shared → Prop} {s : Shared} {env : Env} {h₀ : Heap} {L : Addr} {x : Str} {body : List Stmt}
theorem for_range {r : Addr} {a₀ b₀ c₀ : Int} {t₀ u₀ v₀ : Tok} {n : Nat} {m₀ : Str → Option Value} {news : List (Addr × Obj)} (J : Nat → (Str → Option Value) → List (Addr × Obj) → Prop)
    (hL : env.locals = L) (hh : A.handled = none) (hr : IsRange s.heap r a₀ b₀ c₀ t₀ u₀ v₀) (hsmall : Builtin.Range.small a₀ b₀ c₀ = true) (hn : Builtin.Range.rangeSize a₀ b₀ c₀ = (n : Int)) (F : Fr h₀ L s.heap m₀) (N : News h₀ L s.heap news) (h0 : J 0 m₀ news)
    (turn : ∀ (i : Nat) t m₁ news₁ h tk I oI, i < n → J i m₁ news₁ → (∀ p ∈ news₁, ¬ p.1 = I) → oI.cls = .type "range_iterator" →
      Fr h₀ L h (fun y => if y = x then some (.int (a₀ + (i : Int) * c₀) t) else m₁ y) → News h₀ L h ((I, oI) :: news₁) →
      wpAny (model prog w) A (execs body env) (TurnJ h₀ L [(I, oI)] I (J (i + 1)) s Q) E { s with heap := h, toks := tk })
    (done : ∀ m₁ news₁ h tk, J n m₁ news₁ → Fr h₀ L h m₁ → News h₀ L h news₁ → Q .next { s with heap := h, toks := tk }) :
    Stop (wpAny (model prog w) A (pyIter (.ref r)) (fun it s₂ => LoopAtV prog w A h₀ env x body Q E it s₂) E s) := by
  subst hL
  exact iter_rangeJ J hh hr hsmall hn F N h0 turn done
theorem for_list {l : Addr} {vs : List Value} {k : Nat} {m₀ : Str → Option Value} {news : List (Addr × Obj)} (J : Nat → (Str → Option Value) → List (Addr × Obj) → Prop)
    (hL : env.locals = L) (hh : A.handled = none) (hmem : h₀.get? l = some (listOf vs.toArray k) ∨ ∀ i m news, J i m news → (l, listOf vs.toArray k) ∈ news) (F : Fr h₀ L s.heap m₀) (N : News h₀ L s.heap news) (h0 : J 0 m₀ news)
    (turn : ∀ (i : Nat) v m₁ news₁ h tk I oI, vs[i]? = some v → J i m₁ news₁ → (∀ p ∈ news₁, ¬ p.1 = I) → oI.cls = .type "list_iterator" →
      Fr h₀ L h (fun y => if y = x then some v else m₁ y) → News h₀ L h ((I, oI) :: news₁) →
      wpAny (model prog w) A (execs body env) (TurnJ h₀ L [(I, oI)] I (J (i + 1)) s Q) E { s with heap := h, toks := tk })
    (done : ∀ m₁ news₁ h tk, J vs.length m₁ news₁ → Fr h₀ L h m₁ → News h₀ L h news₁ → Q .next { s with heap := h, toks := tk }) :
    Stop (wpAny (model prog w) A (pyIter (.ref l)) (fun it s₂ => LoopAtV prog w A h₀ env x body Q E it s₂) E s) := by
  subst hL
  exact iter_listJ J hh hmem F N h0 turn done
end
theorem TurnJ.next {h₀ h' : Heap} {L I : Addr} {own news' : List (Addr × Obj)} {J : (Str → Option Value) → List (Addr × Obj) → Prop} {s₁ : Shared} {Q : Flow → Shared → Prop} {m' : Str → Option Value} {tk : Nat}
    (F : Fr h₀ L h' m') (N : News h₀ L h' (own ++ news')) (hne : ∀ p ∈ news', ¬ p.1 = I) (hj : J m' news') : TurnJ h₀ L own I J s₁ Q .next { s₁ with heap := h', toks := tk } := ⟨_, _, _, _, rfl, F, N, hne, hj⟩
theorem TurnJ.ret {h₀ : Heap} {L I : Addr} {own : List (Addr × Obj)} {J : (Str → Option Value) → List (Addr × Obj) → Prop} {s₁ s₂ : Shared} {Q : Flow → Shared → Prop} {v : Value} (h : Q (.ret v) s₂) : TurnJ h₀ L own I J s₁ Q (.ret v) s₂ := h
theorem sub_refl {l : List (Addr × Obj)} : ∀ x ∈ l, x ∈ l := fun _ h => h
theorem sub_cons {l l' : List (Addr × Obj)} {y : Addr × Obj} (h : ∀ x ∈ l, x ∈ l') : ∀ x ∈ l, x ∈ y :: l' := fun x hx => .tail _ (h x hx)
theorem sub_right {l l' k : List (Addr × Obj)} (h : ∀ x ∈ l, x ∈ l') : ∀ x ∈ l, x ∈ k ++ l' := fun x hx => List.mem_append_right _ (h x hx)
theorem sub_left {l l' k : List (Addr × Obj)} (h : ∀ x ∈ l, x ∈ l') : ∀ x ∈ l, x ∈ l' ++ k := fun x hx => List.mem_append_left _ (h x hx)
theorem set_mid {hs : List Value} {b : Value} {xs : List Value} {k : Nat} (h : xs.length = k + 1) : ∃ t, t.length = k ∧ (hs ++ xs).set ((hs.length : Int)).toNat b = hs ++ b :: t := by
  match xs, h with
  | x :: t, h => exact ⟨t, by simpa using h, by simp [List.set_append]⟩
theorem News.neAll {h₀ h : Heap} {L X : Addr} {l nt : List (Addr × Obj)} {o : Obj} (N : News h₀ L h l) (hs : ∀ q ∈ nt, q ∈ l) (ht : ∀ q ∈ nt, q.2.cls = .type "tuple") (hX : (X, o) ∈ l) (ho : o.cls ≠ .type "tuple") : ∀ q ∈ nt, q.1 ≠ X := fun q hq e => by
  have p := (N _ (hs q hq)).1
  have r := (N _ hX).1
  dsimp only at r
  rw [e, r] at p
  cases p
  exact ho (ht q hq)
theorem list_ne_tuple {vs : List Value} {n : Nat} : (listOf vs.toArray n).cls ≠ .type "tuple" := ne_typ rfl
theorem News.two0 {h₀ h : Heap} {L : Addr} {q r : Addr × Obj} {post : List (Addr × Obj)} (N : News h₀ L h (q :: r :: post)) : News h₀ L h ([] ++ ([q, r] ++ post)) := N
theorem News.two1 {h₀ h : Heap} {L : Addr} {q r : Addr × Obj} {x0 : Addr × Obj} {post : List (Addr × Obj)} (N : News h₀ L h (x0 :: q :: r :: post)) : News h₀ L h ([x0] ++ ([q, r] ++ post)) := N
theorem News.two2 {h₀ h : Heap} {L : Addr} {q r : Addr × Obj} {x0 x1 : Addr × Obj} {post : List (Addr × Obj)} (N : News h₀ L h (x0 :: x1 :: q :: r :: post)) : News h₀ L h ([x0, x1] ++ ([q, r] ++ post)) := N
theorem News.two3 {h₀ h : Heap} {L : Addr} {q r : Addr × Obj} {x0 x1 x2 : Addr × Obj} {post : List (Addr × Obj)} (N : News h₀ L h (x0 :: x1 :: x2 :: q :: r :: post)) : News h₀ L h ([x0, x1, x2] ++ ([q, r] ++ post)) := N
theorem News.two4 {h₀ h : Heap} {L : Addr} {q r : Addr × Obj} {x0 x1 x2 x3 : Addr × Obj} {post : List (Addr × Obj)} (N : News h₀ L h (x0 :: x1 :: x2 :: x3 :: q :: r :: post)) : News h₀ L h ([x0, x1, x2, x3] ++ ([q, r] ++ post)) := N
theorem News.two5 {h₀ h : Heap} {L : Addr} {q r : Addr × Obj} {x0 x1 x2 x3 x4 : Addr × Obj} {post : List (Addr × Obj)} (N : News h₀ L h (x0 :: x1 :: x2 :: x3 :: x4 :: q :: r :: post)) : News h₀ L h ([x0, x1, x2, x3, x4] ++ ([q, r] ++ post)) := N
theorem down_size {k : Nat} : Builtin.Range.rangeSize ((k : Int) - 1) (-1) (-1) = (k : Int) := by
  unfold Builtin.Range.rangeSize
  rw [if_neg (by decide : ¬ ((-1 : Int) > 0)), show -(-1 : Int) = 1 from rfl]
  split <;> omega
theorem down_small {k : Nat} (h : k ≤ 1000) : Builtin.Range.small ((k : Int) - 1) (-1) (-1) = true := by
  unfold Builtin.Range.small
  rw [down_size, if_neg (by decide : ¬ ((-1 : Int) > 0))]
  simp only [Builtin.Range.rangeFitsLong, Bool.and_eq_true, Bool.or_eq_true, decide_eq_true_eq]
  omega
end Mine
open PySem PySem.W PySem.Spec PySem.Calls PyProof.Rows
set_option Elab.async false
set_option maxRecDepth 100000
set_option maxHeartbeats 8000000
namespace Mine
set_option linter.all false
set_option rowWalk.seconds 0
set_option linter.unusedSectionVars false
theorem fill_all : PySem.Challenge.rw_rh0088_01 = PySem.Challenge.rw_rh0088_01 ∧ Mine.hd.heap_1 = Mine.hd.heap_1 := by
  w_top off
  k_fill
  exact ⟨rfl, rfl⟩
local macro_rules | `(tactic| walk_at $s:str) => `(tactic| k_extra $s)
local macro_rules | `(tactic| k_units) => `(tactic| k_extra "MKUNITS")
local macro_rules | `(tactic| k_ne) => `(tactic| k_extra "MKNE")
local macro_rules | `(tactic| k_all) => `(tactic| k_extra "MKALL")
local macro_rules | `(tactic| k_inst) => `(tactic| k_extra "MKINST")
local macro_rules | `(tactic| is_list) => `(tactic| k_extra "MISLIST")
section Part1
inductive DerV (g : Heap) (hs ss : List Value) : Nat → Value → Value → Int × Int → Prop where
  | stop {v d} : TupG g v d → d.1 ≠ 0 → d.1 ≠ 1 → DerV g hs ss 0 v v d
  | self0 {v d f} : TupG g v d → d.1 = 0 → 0 ≤ d.2 → d.2 < 1000000 → hs[d.2.toNat]? = some f → TupG g f d → DerV g hs ss 0 v v d
  | self1 {v d f} : TupG g v d → d.1 = 1 → 0 ≤ d.2 → d.2 < 1000000 → ss[d.2.toNat]? = some f → TupG g f d → DerV g hs ss 0 v v d
  | step0 {n v c f c' r d} : TupG g v c → c.1 = 0 → 0 ≤ c.2 → c.2 < 1000000 → hs[c.2.toNat]? = some f → TupG g f c' → c' ≠ c → DerV g hs ss n f r d → DerV g hs ss (n + 1) v r d
  | step1 {n v c f c' r d} : TupG g v c → c.1 = 1 → 0 ≤ c.2 → c.2 < 1000000 → ss[c.2.toNat]? = some f → TupG g f c' → c' ≠ c → DerV g hs ss n f r d → DerV g hs ss (n + 1) v r d
theorem ln1 : True := by
  (k_with "LIT0" => (first | with_reducible assumption | ((first | (with_reducible show @LE.le Nat _ (OfNat.ofNat _) (OfNat.ofNat _)) | (with_reducible show @LT.lt Nat _ (OfNat.ofNat _) (OfNat.ofNat _))); exact Nat.le_of_ble_eq_true rfl)))
  (k_with "LIT1" => (first | with_reducible assumption | (with_reducible refine' Nat.lt_of_lt_of_le ?ha ?hb; (case ha => with_reducible assumption); (case hb => k_extra "LIT0")) | (with_reducible refine' Nat.lt_of_le_of_lt ?ha ?hb; (case ha => with_reducible assumption); (case hb => k_extra "LIT0")) | (with_reducible refine' Nat.le_trans ?ha ?hb; (case ha => with_reducible assumption); (case hb => k_extra "LIT0")) | (with_reducible refine' Nat.le_of_lt (Nat.lt_of_lt_of_le ?ha ?hb); (case ha => with_reducible assumption); (case hb => k_extra "LIT0")) | (with_reducible refine' Nat.lt_of_le_of_lt (Nat.le_of_eq ?ha) ?hb; (case ha => with_reducible assumption); (case hb => k_extra "LIT0")) | (with_reducible refine' Nat.le_trans (Nat.le_of_eq ?ha) ?hb; (case ha => with_reducible assumption); (case hb => k_extra "LIT0"))))
  (k_with "LIT2" => (first | with_reducible assumption | (with_reducible refine' Nat.lt_of_lt_of_le ?ha ?hb; (case ha => with_reducible assumption); (case hb => k_extra "LIT1")) | (with_reducible refine' Nat.lt_of_le_of_lt ?ha ?hb; (case ha => with_reducible assumption); (case hb => k_extra "LIT1")) | (with_reducible refine' Nat.le_trans ?ha ?hb; (case ha => with_reducible assumption); (case hb => k_extra "LIT1")) | (with_reducible refine' Nat.le_of_lt (Nat.lt_of_lt_of_le ?ha ?hb); (case ha => with_reducible assumption); (case hb => k_extra "LIT1")) | (with_reducible refine' Nat.lt_of_le_of_lt (Nat.le_of_eq ?ha) ?hb; (case ha => with_reducible assumption); (case hb => k_extra "LIT1")) | (with_reducible refine' Nat.le_trans (Nat.le_of_eq ?ha) ?hb; (case ha => with_reducible assumption); (case hb => k_extra "LIT1"))))
  (k_with "OM" => (first | with_reducible assumption | with_reducible exact Int.natCast_nonneg _ | with_reducible exact Int.ofNat_lt.mpr (by with_reducible assumption) | with_reducible exact i63 (by k_extra "LIT2") | k_extra "LIT2" | omega))
  (k_with "LTC" => (first | with_reducible assumption | (refine' Nat.lt_trans ?ha ?hb; (case ha => with_reducible assumption); (case hb => k_extra "LTC"))))
  (k_with "NEC" => ((refine neN ?_; (try dsimp only); first | (refine' Nat.ne_of_lt ?hc; (case hc => k_extra "LTC")) | (refine' Nat.ne_of_gt ?hc; (case hc => k_extra "LTC")) | omega)))
  (k_with "ROOMN" => (first | (refine' roomN ?ha (Nat.add_assoc _ _ _) ?hb; (case ha => with_reducible assumption); (case hb => exact rfl)) | (refine' roomN ?ha rfl ?hb; (case ha => with_reducible assumption); (case hb => exact rfl)) | (refine' roomN ?ha ((Nat.add_assoc _ _ _).trans (Nat.add_assoc _ _ _)) ?hb; (case ha => with_reducible assumption); (case hb => exact rfl)) | exact Nat.lt_of_le_of_lt (Nat.le_add_right _ _) (by with_reducible assumption)))
  (k_with "MKUNITS" => (first | k_extra "ROOMN" | ktr_units))
  (k_with "MKNE" => (first | k_extra "NEC" | ((try dsimp only); assumption) | ((try dsimp only); exact Ne.symm (by assumption)) | ((try dsimp only); exact News.ne (by with_reducible assumption) (by k_mem) (by k_mem) (ne_typ rfl))))
  (k_with "MKALL" => (first | assumption | exact List.forall_mem_nil _ | (refine' List.forall_mem_cons.mpr ⟨?a, ?b⟩; (case a => k_ne); (case b => k_all))))
  (k_with "GET" => (first | exact Fr.keep (by with_reducible assumption) _ _ (by with_reducible assumption) | exact News.get (by with_reducible assumption) (by k_mem)))
  (k_with "MKINST" => (exact instG (by k_extra "GET") (by k_extra "GET")))
  (k_with "MISLIST" => (exact isListG (by k_extra "GET")))
  (k_with "ENTER" => (((case ks => assumption); (case k1 => assumption); (case k2 => assumption); (case k3 => assumption); (case k4 => assumption); (case kr => assumption); (case k5 => assumption); (case kK => assumption); (case k8 => first | k_extra "ROOMN" | ktr_room); (case k6 => k_is); (case k7 => k_is); (case k9 => exact BindsTo.of_eq rfl); (case kB => exact locs rfl); (case c2 => exact rfl); (case c3 => exact rfl); (case c4 => exact rfl); (case c5 => decide))))
  (k_with "subscriptTail" => ((k_here; (with_reducible show wpAny _ _ (subscriptTail _ _ (Value.ref _) (Value.int _ _)) _ _ _); k_dflt (refine' item_list ?k1 ?k2 ?k3 ?k4 ?_; (case k1 => is_list); (case k4 => assumption); (case k2 => k_extra "OM"); (case k3 => k_extra "OM")))))
  (k_with "subscriptTail" => ((k_here; (with_reducible show wpAny _ _ (subscriptTail _ _ (Value.ref _) (Value.int 1 _)) _ _ _); k_dflt (refine' item_tup1 ?k1 ?_; (case k1 => k_extra "GET")))))
  (k_with "subscriptTail" => ((k_here; (with_reducible show wpAny _ _ (subscriptTail _ _ (Value.ref _) (Value.int 0 _)) _ _ _); k_dflt (refine' item_tup0 ?k1 ?_; (case k1 => k_extra "GET")))))
  (k_with "compareOp Eq ref ref" => ((k_here; (with_reducible show wpAny _ _ (compareOp CmpOp.Eq (Value.ref _) (Value.ref _)) _ _ _); k_dflt (refine' eq_tup ?k1 ?k2 ?k3 ?_; (case k1 => k_extra "GET"); (case k2 => k_extra "GET"); (case k3 => k_units)))))
  (k_with "ite" => (first | (refine ite_pos ?c ?_; (case c => ((try simp only [decide_eq_true_eq, beq_iff_eq, Bool.not_eq_true', decide_eq_false_iff_not, ne_eq]); first | assumption | omega))) | (refine ite_neg ?c ?_; (case c => ((try simp only [decide_eq_true_eq, beq_iff_eq, Bool.not_eq_true', decide_eq_false_iff_not, ne_eq]); first | assumption | omega)))))
  (k_with "execs cons" => (((with_reducible refine wpAny_execs_cons ?_); (try dsimp only); k_fold)))
  (k_with "STEPS" => (((try k_fold); (repeat' (first | walk1 | (k_unfold; (try dsimp only)) | (dsimp only; walk1))); (all_goals (try dsimp only)))))
  (k_with "LV" => (((try dsimp only [WhileStep2]); refine' LeaveM.mk ?k1 ?k2 ?_; (case k1 => with_reducible assumption); (case k2 => with_reducible assumption); intro _ nK; (try dsimp only [List.nil_append, List.cons_append] at nK); revert nK; intro _; (try dsimp only))))
  (k_with "ROOM" => (first | k_extra "ROOMN" | (simp only [recursionLimit, cLine] at *; omega)))
  (k_with "CTX" => (((case B => with_reducible assumption); (case F => with_reducible assumption); (case X => with_reducible assumption); (case T => with_reducible assumption); (case hk => first | exact rfl | assumption); (case hd => k_extra "ROOM"); (case hu => k_extra "ROOM"); (case N => with_reducible assumption))))
  (k_with "KEEP" => (first | with_reducible assumption | exact DerV.keep (by with_reducible assumption) (Fr.keep (by with_reducible assumption)) | exact Sto.keep (by with_reducible assumption) (Fr.keep (by with_reducible assumption)) | exact Bok.keep (by with_reducible assumption) (Fr.keep (by with_reducible assumption)) | exact TupG.keep (by with_reducible assumption) (Fr.keep (by with_reducible assumption)) | exact ⟨_, by k_extra "GET"⟩ | exact ⟨_, _, _, _, rfl, by k_extra "GET"⟩ | assumption))
  (k_with "AFTER" => (((try dsimp only); (try k_sweep))))
  (k_with "call builtin:len" => ((k_here; (with_reducible show wpAny _ _ (call (Value.builtin "len") [Value.ref _]) _ _ _); k_dflt (refine' len_any ?k1 ?k2 ?_; (case k1 => is_list); (case k2 => first | with_reducible assumption | ((try simp only [List.length_append, List.length_cons, List.length_nil, List.length_set]); omega))))))
  (k_with "call builtin:list.append" => ((k_here; (with_reducible show wpAny _ _ (call (Value.builtin _) [Value.ref _, _]) _ _ _); k_dflt (refine' append_any ?k1 ?k2 ?k3 ?_ ?z; (case k1 => k_asm); (case k2 => k_asm); (case k3 => k_upd); (case z => first | with_reducible assumption | ((try simp only [List.length_append, List.length_cons, List.length_nil, List.length_set]); omega)); k_whole); intro _ _ _; (try k_sweep))))
  (k_with "setItem ref int" => ((k_here; (with_reducible show wpAny _ _ (setItem (Value.ref _) (Value.int _ _) _) _ _ _); k_dflt (refine' set_any ?k1 ?k2 ?k3 ?k4 ?k5 ?k6 ?_; (case k1 => k_asm); (case k2 => k_asm); (case k3 => k_upd); (case k4 => k_extra "OM"); (case k5 => first | with_reducible assumption | ((try simp only [List.length_append, List.length_cons, List.length_nil, List.length_set]); omega)); (case k6 => k_extra "OM"); k_whole); intro _ _ _; (try k_sweep))))
  (k_with "CTX2" => (((case B => with_reducible assumption); (case F => with_reducible assumption); (case X => with_reducible assumption); (case T => with_reducible assumption); (case hk => first | exact rfl | assumption); (case hd => k_extra "ROOM"); (case hu => k_extra "ROOM"))))
  (k_with "SEP" => (((repeat' (first | assumption | exact sep_nil | refine sep_app ?_ ?_ | refine sep_cons ?_ ?_)); (all_goals ((repeat' (first | exact nmNil | refine nmCons ?_ ?_)); all_goals first | assumption | k_extra "NEC" | exact Ne.symm (by assumption) | exact News.ne (by with_reducible assumption) (by k_mem) (by k_mem) (ne_typ rfl))))))
  (k_with "SPLIT1" => (first | (refine' News.at0 ?n; (case n => with_reducible assumption)) | (refine' News.at1 ?n; (case n => with_reducible assumption)) | (refine' News.at2 ?n; (case n => with_reducible assumption)) | (refine' News.at3 ?n; (case n => with_reducible assumption)) | (refine' News.at4 ?n; (case n => with_reducible assumption)) | (refine' News.at5 ?n; (case n => with_reducible assumption)) | (refine' News.at6 ?n; (case n => with_reducible assumption))))
  (k_with "pyIter ref" => (refine stopHere ?_))
  (k_with "SEPI" => (((repeat' (first | assumption | exact sep_nil | refine sep_app ?_ ?_ | refine sep_cons ?_ ?_)); (all_goals ((try dsimp only); first | assumption | k_extra "NEC" | exact Ne.symm (by assumption))))))
  (k_with "SUBT" => (first | exact sub_refl | (refine sub_cons ?_; k_extra "SUBT") | (refine sub_right ?_; k_extra "SUBT") | (refine sub_left ?_; k_extra "SUBT")))
  (k_with "MEM" => (first | exact memH | (with_reducible refine List.mem_append_right _ ?_; k_extra "MEM") | (with_reducible refine List.mem_append_left _ ?_; k_extra "MEM") | (with_reducible refine memT ?_; k_extra "MEM")))
  (k_with "SUBT2" => (first | exact sub_refl | (with_reducible refine sub_right ?_; k_extra "SUBT2") | (with_reducible refine sub_left ?_; k_extra "SUBT2") | (with_reducible refine sub_cons ?_; k_extra "SUBT2")))
  (k_with "SUBM" => (((repeat' (first | exact sep_nil | refine sep_app ?_ ?_ | refine sep_cons ?_ ?_)); (all_goals first | k_extra "MEM" | k_extra "SUBT2"))))
  (k_with "SUB" => (((repeat' (first | exact sep_nil | refine sep_app ?_ ?_ | refine sep_cons ?_ ?_)); (all_goals first | k_mem | k_extra "MEM" | k_extra "SUBT2" | (simp only [List.mem_append, List.mem_cons, List.not_mem_nil, true_or, or_true, or_false, false_or]; done) | (intro _ hx9; simp only [hx9, List.mem_append, List.mem_cons, List.not_mem_nil, true_or, or_true, or_false, false_or]; done) | k_extra "SUBT"))))
  (k_with "exec For Name Name cons nil" => ((k_here; (with_unfolding_all refine' For_invVF ?kF ?k1 ?k2 ?_; (case kF => assumption); (case k1 => exact rfl); (case k2 => exact rfl); k_whole))))
  (k_with "exec For Name Call cons nil" => ((k_here; (with_unfolding_all refine' For_invVF ?kF ?k1 ?k2 ?_; (case kF => assumption); (case k1 => exact rfl); (case k2 => exact rfl); k_whole))))
  (k_with "exec For Name Subscript cons nil" => ((k_here; (with_unfolding_all refine' For_invVF ?kF ?k1 ?k2 ?_; (case kF => assumption); (case k1 => exact rfl); (case k2 => exact rfl); k_whole))))
  (k_with "exec For Name Attribute cons nil" => ((k_here; (with_unfolding_all refine' For_invVF ?kF ?k1 ?k2 ?_; (case kF => assumption); (case k1 => exact rfl); (case k2 => exact rfl); k_whole))))
  trivial
theorem DerV.inv {g : Heap} {hs ss : List Value} {k : Nat} {v r : Value} {d : Int × Int} (h : DerV g hs ss k v r d) : ∃ c, TupG g v c ∧ (c.1 ≠ 0 → c.1 ≠ 1 → r = v) ∧
    (c.1 = 0 → ∃ f c', 0 ≤ c.2 ∧ c.2 < 1000000 ∧ hs[c.2.toNat]? = some f ∧ TupG g f c' ∧ ((c' = c ∧ r = v) ∨ (c' ≠ c ∧ ∃ j, j < k ∧ DerV g hs ss j f r d))) ∧
    (c.1 = 1 → ∃ f c', 0 ≤ c.2 ∧ c.2 < 1000000 ∧ ss[c.2.toNat]? = some f ∧ TupG g f c' ∧ ((c' = c ∧ r = v) ∨ (c' ≠ c ∧ ∃ j, j < k ∧ DerV g hs ss j f r d))) := by
  cases h with
  | stop t h0 h1 => exact ⟨_, t, fun _ _ => rfl, fun h => absurd h h0, fun h => absurd h h1⟩
  | self0 t h0 a b c t' => exact ⟨_, t, fun h => absurd h0 h, fun _ => ⟨_, _, a, b, c, t', .inl ⟨rfl, rfl⟩⟩, fun h => (by rw [h0] at h; cases h)⟩
  | self1 t h0 a b c t' => exact ⟨_, t, fun _ h => absurd h0 h, fun h => (by rw [h0] at h; cases h), fun _ => ⟨_, _, a, b, c, t', .inl ⟨rfl, rfl⟩⟩⟩
  | step0 t h0 a b c t' n z => exact ⟨_, t, fun h => absurd h0 h, fun _ => ⟨_, _, a, b, c, t', .inr ⟨n, _, Nat.lt_succ_self _, z⟩⟩, fun h => (by rw [h0] at h; cases h)⟩
  | step1 t h0 a b c t' n z => exact ⟨_, t, fun _ h => absurd h0 h, fun h => (by rw [h0] at h; cases h), fun _ => ⟨_, _, a, b, c, t', .inr ⟨n, _, Nat.lt_succ_self _, z⟩⟩⟩
theorem DerV.keep {g g' : Heap} {hs ss : List Value} {k : Nat} {v r : Value} {d : Int × Int} (h : DerV g hs ss k v r d) (hk : ∀ b o, g.get? b = some o → g'.get? b = some o) : DerV g' hs ss k v r d := by
  induction h with
  | stop t a b => exact .stop (t.keep hk) a b
  | self0 t a b c e t' => exact .self0 (t.keep hk) a b c e (t'.keep hk)
  | self1 t a b c e t' => exact .self1 (t.keep hk) a b c e (t'.keep hk)
  | step0 t a b c e t' n _ ih => exact .step0 (t.keep hk) a b c e (t'.keep hk) n ih
  | step1 t a b c e t' n _ ih => exact .step1 (t.keep hk) a b c e (t'.keep hk) n ih
theorem DerV.but {g g' : Heap} {hs ss : List Value} {k : Nat} {v r : Value} {d : Int × Int} (h : DerV g hs ss k v r d) (hk : ButLists g g') : DerV g' hs ss k v r d := by
  induction h with
  | stop t a b => exact .stop (t.but hk) a b
  | self0 t a b c e t' => exact .self0 (t.but hk) a b c e (t'.but hk)
  | self1 t a b c e t' => exact .self1 (t.but hk) a b c e (t'.but hk)
  | step0 t a b c e t' n _ ih => exact .step0 (t.but hk) a b c e (t'.but hk) n ih
  | step1 t a b c e t' n _ ih => exact .step1 (t.but hk) a b c e (t'.but hk) n ih
section
variable {prog : Program} {w : World} {p : Program} {loose : List Str} {mean : ExcName → Option Value} {mg mb : Str → Option Value} {dp un : Nat} {gd : Option (List Code)} {cn : Str} {cs : Scope} {a : Addr} {ccd : Value} {cl : List (Str × Addr)} {outer : List Env} {A₀ : Around} {base h₀ : Heap} {L : Addr} {m : Str → Option Value} {s : Shared} {Q E : Value → Shared → Prop}
  (B : Below A₀ base outer h₀) (F : Fr h₀ L s.heap m) (X : (Mine.hd.heap_1 w.params).In h₀) (T : Top p loose mean mg mb h₀) (hk : cs.kind = .function) (hd : dp + 5 < recursionLimit) (hu : un + 100 < cLine)
include B F X T hk hd hu
theorem deref_spec {news : List (Addr × Obj)} {st bk H S : Addr} {k : Nat} {hs ss : List Value} {v r : Value} {d : Int × Int}
    (N : News h₀ L s.heap news) (hS : Sto w.params s.heap st bk H S) (hH : LstG s.heap H hs) (hT : LstG s.heap S ss) (hv : DerV s.heap hs ss k v r d)
    (ret : ∀ h' tk', Fr h₀ L h' m → News h₀ L h' news → Q r { s with heap := h', toks := tk' }) :
    wpAny (model prog w) (ktrTop dp un gd cn cs L a ccd cl outer) (call (.ref 230) [.ref st, v]) Q E s := by
  have N0 : News h₀ L s.heap [] := News.nil
  have sep : ∀ q ∈ news, q.1 ∉ ([] : List (Addr × Obj)).map (·.1) := fun _ _ h => nomatch h
  k_dflt (refine' enterM (binds := [(Str.ofString "self", .ref st), (Str.ofString "cell", v)]) ?k1 ?k2 ?k3 ?k4 ?kr ?ks ?k5 ?kK ?k8 ?k6 ?k7 ?k9 ?kB ?_ ?c2 ?c3 ?c4 ?c5; k_extra "ENTER")
  intro g L' h' tk F' N' B' X' T' hg
  have hg : ∀ b o, s.heap.get? b = some o → g.get? b = some o := fun b o e => hg b o e (fun h => nomatch h)
  refine Classical.byContradiction fun nGo => ?_
  obtain ⟨dst, Tr, kk, u, hst, hdst⟩ := hS.keep hg
  obtain ⟨n1, hH⟩ := hH
  obtain ⟨n2, hT⟩ := hT
  refine nGo ?_; clear nGo
  replace hH := hg _ _ hH
  replace hT := hg _ _ hT
  replace hv := hv.keep hg
  clear hg sep N0
  (try dsimp only)
  walk1
  refine While_inv2 (fun k m news => ∃ v, Agree m [(Str.ofString "self", .ref st), (Str.ofString "cell", v)] ∧ DerV g hs ss k v r d ∧ news = []) F' N' ⟨v, .cons rfl (.cons rfl .nil), hv, rfl⟩ ?_ (by with_unfolding_all passes_own)
  intro k m₁ news₁ h₁ tk₁ F₁ N₁ hR7; obtain ⟨v, ag, hv, rfl⟩ := hR7
  replace F₁ := Fr.form F₁ ag
  clear F' N' ag
  obtain ⟨c, ⟨ac, t1, t2, nc, rfl, hc⟩, r1, r2, r3⟩ := hv.inv
  show wpAny _ _ _ _ _ _
  by_cases c0 : c.1 = 0
  · obtain ⟨f, c', p0, p1, hx, ⟨af, t3, t4, nf, rfl, hf⟩, hr⟩ := r2 c0
    clear r1 r2 r3
    k_extra "STEPS"
    · obtain ⟨_, rfl⟩ | ⟨hn, _⟩ := hr
      · (k_extra "LV"; exact ret _ _ (by with_reducible assumption) (by with_reducible assumption))
      · exact absurd (by assumption) hn
    · obtain ⟨hn, _⟩ | ⟨_, j, hj, hz⟩ := hr
      · exact absurd hn (by assumption)
      · exact ⟨_, _, _, _, j, rfl, by assumption, by assumption, hj, _, .cons rfl (.cons rfl .nil), hz, rfl⟩
  · by_cases c1 : c.1 = 1
    · obtain ⟨f, c', p0, p1, hx, ⟨af, t3, t4, nf, rfl, hf⟩, hr⟩ := r3 c1
      clear r1 r2 r3
      show wpAny _ _ _ _ _ _
      k_extra "STEPS"
      · obtain ⟨_, rfl⟩ | ⟨hn, _⟩ := hr
        · (k_extra "LV"; exact ret _ _ (by with_reducible assumption) (by with_reducible assumption))
        · exact absurd (by assumption) hn
      · obtain ⟨hn, _⟩ | ⟨_, j, hj, hz⟩ := hr
        · exact absurd hn (by assumption)
        · exact ⟨_, _, _, _, j, rfl, by assumption, by assumption, hj, _, .cons rfl (.cons rfl .nil), hz, rfl⟩
    · obtain rfl := r1 c0 c1
      clear r2 r3
      show wpAny _ _ _ _ _ _
      k_extra "STEPS"
      (k_extra "LV"; exact ret _ _ (by with_reducible assumption) (by with_reducible assumption))
end
end Part1
section Part2
noncomputable def isC (c : Int × Int) : Bool := decide (c.1 = 2) || decide (c.1 = 3)
noncomputable def baseOf (c : Int × Int) : Int := if c.1 = 3 then c.2 else c.2 + 1
section
variable {prog : Program} {w : World} {p : Program} {loose : List Str} {mean : ExcName → Option Value} {mg mb : Str → Option Value} {dp un : Nat} {gd : Option (List Code)} {cn : Str} {cs : Scope} {a : Addr} {ccd : Value} {cl : List (Str × Addr)} {outer : List Env} {A₀ : Around} {base h₀ : Heap} {L : Addr} {m : Str → Option Value} {s : Shared} {Q E : Value → Shared → Prop}
  (B : Below A₀ base outer h₀) (F : Fr h₀ L s.heap m) (X : (Mine.hd.heap_1 w.params).In h₀) (T : Top p loose mean mg mb h₀) (hk : cs.kind = .function) (hd : dp + 5 < recursionLimit) (hu : un + 100 < cLine)
include B F X T hk hd hu
theorem ln2 : True := by
  (k_with "KEEP" => (first | with_reducible assumption | exact DerV.keep (by with_reducible assumption) (Fr.keep (by with_reducible assumption)) | exact Sto.keep (by with_reducible assumption) (Fr.keep (by with_reducible assumption)) | exact Bok.keep (by with_reducible assumption) (Fr.keep (by with_reducible assumption)) | exact TupG.keep (by with_reducible assumption) (Fr.keep (by with_reducible assumption)) | exact ⟨_, by k_extra "GET"⟩ | exact ⟨_, _, _, _, rfl, by k_extra "GET"⟩ | assumption))
  trivial
theorem comp_spec {news : List (Addr × Obj)} {st : Value} {v : Value} {c : Int × Int}
    (N : News h₀ L s.heap news) (hv : TupG s.heap v c)
    (ret : ∀ h' tk', Fr h₀ L h' m → News h₀ L h' news → Q (.bool (isC c)) { s with heap := h', toks := tk' }) :
    wpAny (model prog w) (ktrTop dp un gd cn cs L a ccd cl outer) (call (.ref 286) [st, v]) Q E s := by
  have N0 : News h₀ L s.heap [] := News.nil
  have sep : ∀ q ∈ news, q.1 ∉ ([] : List (Addr × Obj)).map (·.1) := fun _ _ h => nomatch h
  k_dflt (refine' enterM (binds := [(Str.ofString "self", st), (Str.ofString "cell", v)]) ?k1 ?k2 ?k3 ?k4 ?kr ?ks ?k5 ?kK ?k8 ?k6 ?k7 ?k9 ?kB ?_ ?c2 ?c3 ?c4 ?c5; k_extra "ENTER")
  intro g L' h' tk F' N' B' X' T' hg
  have hg : ∀ b o, s.heap.get? b = some o → g.get? b = some o := fun b o e => hg b o e (fun h => nomatch h)
  obtain ⟨ac, t1, t2, nc, rfl, hc⟩ := hv.keep hg
  clear hg sep N0
  (try dsimp only)
  k_extra "STEPS"
  · k_extra "LV"
    have e : isC c = (c.1 == 2) := by
      unfold isC
      rw [show (c.1 == 2) = decide (c.1 = 2) from rfl]
      have q : (c.1 == 2) = true := by first | assumption | (rw [beq_iff_eq]; assumption)
      rw [beq_iff_eq] at q
      simp [q]
    rw [← e]
    exact ret _ _ (by with_reducible assumption) (by with_reducible assumption)
  · k_extra "LV"
    have e : isC c = (c.1 == 3) := by
      unfold isC
      have q : ¬ c.1 = 2 := by first | assumption | (rw [← beq_iff_eq]; assumption)
      simp [q]
      rfl
    rw [← e]
    exact ret _ _ (by with_reducible assumption) (by with_reducible assumption)
theorem base_spec {news : List (Addr × Obj)} {st : Value} {v : Value} {c : Int × Int}
    (N : News h₀ L s.heap news) (hv : TupG s.heap v c) (h0 : 0 ≤ c.2) (h1 : c.2 < 1000000)
    (ret : ∀ h' tk' t, Fr h₀ L h' m → News h₀ L h' news → Q (.int (baseOf c) t) { s with heap := h', toks := tk' }) :
    wpAny (model prog w) (ktrTop dp un gd cn cs L a ccd cl outer) (call (.ref 307) [st, v]) Q E s := by
  have N0 : News h₀ L s.heap [] := News.nil
  have sep : ∀ q ∈ news, q.1 ∉ ([] : List (Addr × Obj)).map (·.1) := fun _ _ h => nomatch h
  k_dflt (refine' enterM (binds := [(Str.ofString "self", st), (Str.ofString "cell", v)]) ?k1 ?k2 ?k3 ?k4 ?kr ?ks ?k5 ?kK ?k8 ?k6 ?k7 ?k9 ?kB ?_ ?c2 ?c3 ?c4 ?c5; k_extra "ENTER")
  intro g L' h' tk F' N' B' X' T' hg
  have hg : ∀ b o, s.heap.get? b = some o → g.get? b = some o := fun b o e => hg b o e (fun h => nomatch h)
  obtain ⟨ac, t1, t2, nc, rfl, hc⟩ := hv.keep hg
  clear hg sep N0
  (try dsimp only)
  k_extra "STEPS"
  · k_extra "LV"
    rw [show c.2 = baseOf c from (if_pos (by assumption)).symm]
    exact ret _ _ _ (by with_reducible assumption) (by with_reducible assumption)
  · k_extra "LV"
    rw [show c.2 + 1 = baseOf c from (if_neg (by assumption)).symm]
    exact ret _ _ _ (by with_reducible assumption) (by with_reducible assumption)
theorem arity_spec {news : List (Addr × Obj)} {bk TX AN FL FN : Addr} {fl : List Value} {f : Int} {tf : Tok} {v : Value} {c : Int × Int}
    (N : News h₀ L s.heap news) (hB : Bok w.params s.heap bk TX AN FL FN) (hF : LstG s.heap FL fl) (h0 : 0 ≤ f) (h1 : f < 1000000) (hx : fl[f.toNat]? = some v) (hv : TupG s.heap v c)
    (ret : ∀ h' tk' t, Fr h₀ L h' m → News h₀ L h' news → Q (.int c.2 t) { s with heap := h', toks := tk' }) :
    wpAny (model prog w) (ktrTop dp un gd cn cs L a ccd cl outer) (call (.ref 123) [.ref bk, .int f tf]) Q E s := by
  have N0 : News h₀ L s.heap [] := News.nil
  have sep : ∀ q ∈ news, q.1 ∉ ([] : List (Addr × Obj)).map (·.1) := fun _ _ h => nomatch h
  k_dflt (refine' enterM (binds := [(Str.ofString "self", .ref bk), (Str.ofString "functor", .int f tf)]) ?k1 ?k2 ?k3 ?k4 ?kr ?ks ?k5 ?kK ?k8 ?k6 ?k7 ?k9 ?kB ?_ ?c2 ?c3 ?c4 ?c5; k_extra "ENTER")
  intro g L' h' tk F' N' B' X' T' hg
  have hg : ∀ b o, s.heap.get? b = some o → g.get? b = some o := fun b o e => hg b o e (fun h => nomatch h)
  refine Classical.byContradiction fun nGo => ?_
  obtain ⟨ac, t1, t2, nc, rfl, hc⟩ := hv.keep hg
  obtain ⟨dbk, kk, hbk, hdbk⟩ := hB.keep hg
  obtain ⟨n1, hF⟩ := hF
  refine nGo ?_; clear nGo
  replace hF := hg _ _ hF
  clear hg sep N0
  (try dsimp only)
  k_extra "STEPS"
  k_extra "LV"
  exact ret _ _ _ (by with_reducible assumption) (by with_reducible assumption)
end
/-- the store's arrays are written; the rest stands beside them -/
noncomputable def Wid (h : Heap) (hs fl : List Value) (c : Int × Int) (k : Int) : Prop :=
  (c.1 = 3 ∧ k = 2) ∨ (c.1 = 2 ∧ ∃ fv f av at_, 0 ≤ c.2 ∧ c.2 < 1000000 ∧ hs[c.2.toNat]? = some fv ∧ TupG h fv (6, f) ∧ 0 ≤ f ∧ f < 1000000 ∧ fl[f.toNat]? = some av ∧ TupG h av (at_, k)) ∨ (c.1 ≠ 2 ∧ c.1 ≠ 3 ∧ k = 0)
section
variable {prog : Program} {w : World} {p : Program} {loose : List Str} {mean : ExcName → Option Value} {mg mb : Str → Option Value} {dp un : Nat} {gd : Option (List Code)} {cn : Str} {cs : Scope} {a : Addr} {ccd : Value} {cl : List (Str × Addr)} {outer : List Env} {A₀ : Around} {base h₀ : Heap} {L : Addr} {m : Str → Option Value} {s : Shared} {Q E : Value → Shared → Prop}
  (B : Below A₀ base outer h₀) (F : Fr h₀ L s.heap m) (X : (Mine.hd.heap_1 w.params).In h₀) (T : Top p loose mean mg mb h₀) (hk : cs.kind = .function) (hd : dp + 10 < recursionLimit) (hu : un + 200 < cLine)
include B F X T hk hd hu
theorem ln3 : True := by
  (k_with "call ref" => ((k_here; (with_reducible show wpAny _ _ (call (Value.ref 123) _) _ _ _); k_dflt (refine' arity_spec ?B ?F ?X ?T ?hk ?hd ?hu ?N ?hB ?hF ?h0 ?h1 ?hx ?hv ?_; k_extra "CTX"; (case hB => k_extra "KEEP"); (case hF => k_extra "KEEP"); (case hx => assumption); (case h0 => k_extra "OM"); (case h1 => k_extra "OM"); (case hv => k_extra "KEEP")); intro _ _ _ _ _; k_extra "AFTER")))
  trivial
theorem width_spec {news : List (Addr × Obj)} {st bk H S TX AN FL FN : Addr} {hs fl : List Value} {v : Value} {c : Int × Int} {k : Int}
    (N : News h₀ L s.heap news) (hS : Sto w.params s.heap st bk H S) (hB : Bok w.params s.heap bk TX AN FL FN) (hH : LstG s.heap H hs) (hF : LstG s.heap FL fl) (hv : TupG s.heap v c) (hw : Wid s.heap hs fl c k)
    (ret : ∀ h' tk' t, Fr h₀ L h' m → News h₀ L h' news → Q (.int k t) { s with heap := h', toks := tk' }) :
    wpAny (model prog w) (ktrTop dp un gd cn cs L a ccd cl outer) (call (.ref 300) [.ref st, v]) Q E s := by
  have N0 : News h₀ L s.heap [] := News.nil
  have sep : ∀ q ∈ news, q.1 ∉ ([] : List (Addr × Obj)).map (·.1) := fun _ _ h => nomatch h
  k_dflt (refine' enterM (binds := [(Str.ofString "self", .ref st), (Str.ofString "cell", v)]) ?k1 ?k2 ?k3 ?k4 ?kr ?ks ?k5 ?kK ?k8 ?k6 ?k7 ?k9 ?kB ?_ ?c2 ?c3 ?c4 ?c5; k_extra "ENTER")
  intro g L' h' tk F' N' B' X' T' hg
  have hg : ∀ b o, s.heap.get? b = some o → g.get? b = some o := fun b o e => hg b o e (fun h => nomatch h)
  refine Classical.byContradiction fun nGo => ?_
  obtain ⟨ac, t1, t2, nc, rfl, hc⟩ := hv.keep hg
  obtain ⟨dst, Tr, kk, u, hst, hdst⟩ := hS.keep hg
  have hB := hB.keep hg
  obtain ⟨dbk, kb, hbk, hdbk⟩ := id hB
  obtain ⟨n1, hH⟩ := hH
  replace hH := hg _ _ hH
  obtain ⟨n2, hF⟩ := hF
  refine nGo ?_; clear nGo
  replace hF := hg _ _ hF
  (try dsimp only)
  obtain ⟨e1, rfl⟩ | ⟨e1, fv, f, av, at_, p0, p1, p2, p3, p4, p5, p6, p7⟩ | ⟨e1, e2, rfl⟩ := hw
  · k_extra "STEPS"
    k_extra "LV"
    exact ret _ _ _ (by with_reducible assumption) (by with_reducible assumption)
  · obtain ⟨af, t3, t4, nf, rfl, hf⟩ := p3.keep hg
    have p7 := p7.keep hg
    k_extra "STEPS"
    k_extra "LV"
    exact ret _ _ _ (by with_reducible assumption) (by with_reducible assumption)
  · k_extra "STEPS"
    k_extra "LV"
    exact ret _ _ _ (by with_reducible assumption) (by with_reducible assumption)
end
end Part2
section Part3
section
variable {prog : Program} {w : World} {p : Program} {loose : List Str} {mean : ExcName → Option Value} {mg mb : Str → Option Value} {dp un : Nat} {gd : Option (List Code)} {cn : Str} {cs : Scope} {a : Addr} {ccd : Value} {cl : List (Str × Addr)} {outer : List Env} {A₀ : Around} {base h₀ : Heap} {L : Addr} {m : Str → Option Value} {s : Shared} {Q E : Value → Shared → Prop}
  (B : Below A₀ base outer h₀) (F : Fr h₀ L s.heap m) (X : (Mine.hd.heap_1 w.params).In h₀) (T : Top p loose mean mg mb h₀) (hk : cs.kind = .function) (hd : dp + 5 < recursionLimit) (hu : un + 100 < cLine)
include B F X T hk hd hu
theorem ln4 : True := by
  k_with_none
  (k_with "LIT0" => (first | with_reducible assumption | ((first | (with_reducible show @LE.le Nat _ (OfNat.ofNat _) (OfNat.ofNat _)) | (with_reducible show @LT.lt Nat _ (OfNat.ofNat _) (OfNat.ofNat _))); exact Nat.le_of_ble_eq_true rfl)))
  (k_with "LIT1" => (first | with_reducible assumption | (with_reducible refine' Nat.lt_of_lt_of_le ?ha ?hb; (case ha => with_reducible assumption); (case hb => k_extra "LIT0")) | (with_reducible refine' Nat.lt_of_le_of_lt ?ha ?hb; (case ha => with_reducible assumption); (case hb => k_extra "LIT0")) | (with_reducible refine' Nat.le_trans ?ha ?hb; (case ha => with_reducible assumption); (case hb => k_extra "LIT0")) | (with_reducible refine' Nat.le_of_lt (Nat.lt_of_lt_of_le ?ha ?hb); (case ha => with_reducible assumption); (case hb => k_extra "LIT0")) | (with_reducible refine' Nat.lt_of_le_of_lt (Nat.le_of_eq ?ha) ?hb; (case ha => with_reducible assumption); (case hb => k_extra "LIT0")) | (with_reducible refine' Nat.le_trans (Nat.le_of_eq ?ha) ?hb; (case ha => with_reducible assumption); (case hb => k_extra "LIT0"))))
  (k_with "LIT2" => (first | with_reducible assumption | (with_reducible refine' Nat.lt_of_lt_of_le ?ha ?hb; (case ha => with_reducible assumption); (case hb => k_extra "LIT1")) | (with_reducible refine' Nat.lt_of_le_of_lt ?ha ?hb; (case ha => with_reducible assumption); (case hb => k_extra "LIT1")) | (with_reducible refine' Nat.le_trans ?ha ?hb; (case ha => with_reducible assumption); (case hb => k_extra "LIT1")) | (with_reducible refine' Nat.le_of_lt (Nat.lt_of_lt_of_le ?ha ?hb); (case ha => with_reducible assumption); (case hb => k_extra "LIT1")) | (with_reducible refine' Nat.lt_of_le_of_lt (Nat.le_of_eq ?ha) ?hb; (case ha => with_reducible assumption); (case hb => k_extra "LIT1")) | (with_reducible refine' Nat.le_trans (Nat.le_of_eq ?ha) ?hb; (case ha => with_reducible assumption); (case hb => k_extra "LIT1"))))
  (k_with "OM" => (first | with_reducible assumption | with_reducible exact Int.natCast_nonneg _ | with_reducible exact Int.ofNat_lt.mpr (by with_reducible assumption) | with_reducible exact i63 (by k_extra "LIT2") | k_extra "LIT2" | omega))
  (k_with "LTC" => (first | with_reducible assumption | (refine' Nat.lt_trans ?ha ?hb; (case ha => with_reducible assumption); (case hb => k_extra "LTC"))))
  (k_with "NEC" => ((refine neN ?_; (try dsimp only); first | (refine' Nat.ne_of_lt ?hc; (case hc => k_extra "LTC")) | (refine' Nat.ne_of_gt ?hc; (case hc => k_extra "LTC")) | omega)))
  (k_with "ROOMN" => (first | (refine' roomN ?ha (Nat.add_assoc _ _ _) ?hb; (case ha => with_reducible assumption); (case hb => exact rfl)) | (refine' roomN ?ha rfl ?hb; (case ha => with_reducible assumption); (case hb => exact rfl)) | (refine' roomN ?ha ((Nat.add_assoc _ _ _).trans (Nat.add_assoc _ _ _)) ?hb; (case ha => with_reducible assumption); (case hb => exact rfl)) | exact Nat.lt_of_le_of_lt (Nat.le_add_right _ _) (by with_reducible assumption)))
  (k_with "MKUNITS" => (first | k_extra "ROOMN" | ktr_units))
  (k_with "MKNE" => (first | k_extra "NEC" | ((try dsimp only); assumption) | ((try dsimp only); exact Ne.symm (by assumption)) | ((try dsimp only); exact News.ne (by with_reducible assumption) (by k_mem) (by k_mem) (ne_typ rfl))))
  (k_with "MKALL" => (first | assumption | exact List.forall_mem_nil _ | (refine' List.forall_mem_cons.mpr ⟨?a, ?b⟩; (case a => k_ne); (case b => k_all))))
  (k_with "GET" => (first | exact Fr.keep (by with_reducible assumption) _ _ (by with_reducible assumption) | exact News.get (by with_reducible assumption) (by k_mem)))
  (k_with "MKINST" => (exact instG (by k_extra "GET") (by k_extra "GET")))
  (k_with "MISLIST" => (exact isListG (by k_extra "GET")))
  (k_with "ENTER" => (((case ks => assumption); (case k1 => assumption); (case k2 => assumption); (case k3 => assumption); (case k4 => assumption); (case kr => assumption); (case k5 => assumption); (case kK => assumption); (case k8 => first | k_extra "ROOMN" | ktr_room); (case k6 => k_is); (case k7 => k_is); (case k9 => exact BindsTo.of_eq rfl); (case kB => exact locs rfl); (case c2 => exact rfl); (case c3 => exact rfl); (case c4 => exact rfl); (case c5 => decide))))
  (k_with "subscriptTail" => ((k_here; (with_reducible show wpAny _ _ (subscriptTail _ _ (Value.ref _) (Value.int _ _)) _ _ _); k_dflt (refine' item_list ?k1 ?k2 ?k3 ?k4 ?_; (case k1 => is_list); (case k4 => assumption); (case k2 => k_extra "OM"); (case k3 => k_extra "OM")))))
  (k_with "subscriptTail" => ((k_here; (with_reducible show wpAny _ _ (subscriptTail _ _ (Value.ref _) (Value.int 1 _)) _ _ _); k_dflt (refine' item_tup1 ?k1 ?_; (case k1 => k_extra "GET")))))
  (k_with "subscriptTail" => ((k_here; (with_reducible show wpAny _ _ (subscriptTail _ _ (Value.ref _) (Value.int 0 _)) _ _ _); k_dflt (refine' item_tup0 ?k1 ?_; (case k1 => k_extra "GET")))))
  (k_with "compareOp Eq ref ref" => ((k_here; (with_reducible show wpAny _ _ (compareOp CmpOp.Eq (Value.ref _) (Value.ref _)) _ _ _); k_dflt (refine' eq_tup ?k1 ?k2 ?k3 ?_; (case k1 => k_extra "GET"); (case k2 => k_extra "GET"); (case k3 => k_units)))))
  (k_with "ite" => (first | (refine ite_pos ?c ?_; (case c => ((try simp only [decide_eq_true_eq, beq_iff_eq, Bool.not_eq_true', decide_eq_false_iff_not, ne_eq]); first | assumption | omega))) | (refine ite_neg ?c ?_; (case c => ((try simp only [decide_eq_true_eq, beq_iff_eq, Bool.not_eq_true', decide_eq_false_iff_not, ne_eq]); first | assumption | omega)))))
  (k_with "execs cons" => (((with_reducible refine wpAny_execs_cons ?_); (try dsimp only); k_fold)))
  (k_with "STEPS" => (((try k_fold); (repeat' (first | walk1 | (k_unfold; (try dsimp only)) | (dsimp only; walk1))); (all_goals (try dsimp only)))))
  (k_with "LV" => (((try dsimp only [WhileStep2]); refine' LeaveM.mk ?k1 ?k2 ?_; (case k1 => with_reducible assumption); (case k2 => with_reducible assumption); intro _ nK; (try dsimp only [List.nil_append, List.cons_append] at nK); revert nK; intro _; (try dsimp only))))
  (k_with "ROOM" => (first | k_extra "ROOMN" | (simp only [recursionLimit, cLine] at *; omega)))
  (k_with "CTX" => (((case B => with_reducible assumption); (case F => with_reducible assumption); (case X => with_reducible assumption); (case T => with_reducible assumption); (case hk => first | exact rfl | assumption); (case hd => k_extra "ROOM"); (case hu => k_extra "ROOM"); (case N => with_reducible assumption))))
  (k_with "KEEP" => (first | with_reducible assumption | exact DerV.keep (by with_reducible assumption) (Fr.keep (by with_reducible assumption)) | exact Sto.keep (by with_reducible assumption) (Fr.keep (by with_reducible assumption)) | exact Bok.keep (by with_reducible assumption) (Fr.keep (by with_reducible assumption)) | exact TupG.keep (by with_reducible assumption) (Fr.keep (by with_reducible assumption)) | exact ⟨_, by k_extra "GET"⟩ | exact ⟨_, _, _, _, rfl, by k_extra "GET"⟩ | assumption))
  (k_with "AFTER" => (((try dsimp only); (try k_sweep))))
  (k_with "call builtin:len" => ((k_here; (with_reducible show wpAny _ _ (call (Value.builtin "len") [Value.ref _]) _ _ _); k_dflt (refine' len_any ?k1 ?k2 ?_; (case k1 => is_list); (case k2 => first | with_reducible assumption | ((try simp only [List.length_append, List.length_cons, List.length_nil, List.length_set]); omega))))))
  (k_with "call builtin:list.append" => ((k_here; (with_reducible show wpAny _ _ (call (Value.builtin _) [Value.ref _, _]) _ _ _); k_dflt (refine' append_any ?k1 ?k2 ?k3 ?_ ?z; (case k1 => k_asm); (case k2 => k_asm); (case k3 => k_upd); (case z => first | with_reducible assumption | ((try simp only [List.length_append, List.length_cons, List.length_nil, List.length_set]); omega)); k_whole); intro _ _ _; (try k_sweep))))
  (k_with "setItem ref int" => ((k_here; (with_reducible show wpAny _ _ (setItem (Value.ref _) (Value.int _ _) _) _ _ _); k_dflt (refine' set_any ?k1 ?k2 ?k3 ?k4 ?k5 ?k6 ?_; (case k1 => k_asm); (case k2 => k_asm); (case k3 => k_upd); (case k4 => k_extra "OM"); (case k5 => first | with_reducible assumption | ((try simp only [List.length_append, List.length_cons, List.length_nil, List.length_set]); omega)); (case k6 => k_extra "OM"); k_whole); intro _ _ _; (try k_sweep))))
  (k_with "CTX2" => (((case B => with_reducible assumption); (case F => with_reducible assumption); (case X => with_reducible assumption); (case T => with_reducible assumption); (case hk => first | exact rfl | assumption); (case hd => k_extra "ROOM"); (case hu => k_extra "ROOM"))))
  (k_with "SEP" => (((repeat' (first | assumption | exact sep_nil | refine sep_app ?_ ?_ | refine sep_cons ?_ ?_)); (all_goals ((repeat' (first | exact nmNil | refine nmCons ?_ ?_)); all_goals first | assumption | k_extra "NEC" | exact Ne.symm (by assumption) | exact News.ne (by with_reducible assumption) (by k_mem) (by k_mem) (ne_typ rfl))))))
  (k_with "SPLIT1" => (first | (refine' News.at0 ?n; (case n => with_reducible assumption)) | (refine' News.at1 ?n; (case n => with_reducible assumption)) | (refine' News.at2 ?n; (case n => with_reducible assumption)) | (refine' News.at3 ?n; (case n => with_reducible assumption)) | (refine' News.at4 ?n; (case n => with_reducible assumption)) | (refine' News.at5 ?n; (case n => with_reducible assumption)) | (refine' News.at6 ?n; (case n => with_reducible assumption))))
  (k_with "pyIter ref" => (refine stopHere ?_))
  (k_with "SEPI" => (((repeat' (first | assumption | exact sep_nil | refine sep_app ?_ ?_ | refine sep_cons ?_ ?_)); (all_goals ((try dsimp only); first | assumption | k_extra "NEC" | exact Ne.symm (by assumption))))))
  (k_with "SUBT" => (first | exact sub_refl | (refine sub_cons ?_; k_extra "SUBT") | (refine sub_right ?_; k_extra "SUBT") | (refine sub_left ?_; k_extra "SUBT")))
  (k_with "MEM" => (first | exact memH | (with_reducible refine List.mem_append_right _ ?_; k_extra "MEM") | (with_reducible refine List.mem_append_left _ ?_; k_extra "MEM") | (with_reducible refine memT ?_; k_extra "MEM")))
  (k_with "SUBT2" => (first | exact sub_refl | (with_reducible refine sub_right ?_; k_extra "SUBT2") | (with_reducible refine sub_left ?_; k_extra "SUBT2") | (with_reducible refine sub_cons ?_; k_extra "SUBT2")))
  (k_with "SUBM" => (((repeat' (first | exact sep_nil | refine sep_app ?_ ?_ | refine sep_cons ?_ ?_)); (all_goals first | k_extra "MEM" | k_extra "SUBT2"))))
  (k_with "SUB" => (((repeat' (first | exact sep_nil | refine sep_app ?_ ?_ | refine sep_cons ?_ ?_)); (all_goals first | k_mem | k_extra "MEM" | k_extra "SUBT2" | (simp only [List.mem_append, List.mem_cons, List.not_mem_nil, true_or, or_true, or_false, false_or]; done) | (intro _ hx9; simp only [hx9, List.mem_append, List.mem_cons, List.not_mem_nil, true_or, or_true, or_false, false_or]; done) | k_extra "SUBT"))))
  (k_with "exec For Name Name cons nil" => ((k_here; (with_unfolding_all refine' For_invVF ?kF ?k1 ?k2 ?_; (case kF => assumption); (case k1 => exact rfl); (case k2 => exact rfl); k_whole))))
  (k_with "exec For Name Call cons nil" => ((k_here; (with_unfolding_all refine' For_invVF ?kF ?k1 ?k2 ?_; (case kF => assumption); (case k1 => exact rfl); (case k2 => exact rfl); k_whole))))
  (k_with "exec For Name Subscript cons nil" => ((k_here; (with_unfolding_all refine' For_invVF ?kF ?k1 ?k2 ?_; (case kF => assumption); (case k1 => exact rfl); (case k2 => exact rfl); k_whole))))
  (k_with "exec For Name Attribute cons nil" => ((k_here; (with_unfolding_all refine' For_invVF ?kF ?k1 ?k2 ?_; (case kF => assumption); (case k1 => exact rfl); (case k2 => exact rfl); k_whole))))
  (k_with "KEEP" => (first | with_reducible assumption | exact DerV.keep (by with_reducible assumption) (Fr.keep (by with_reducible assumption)) | exact Sto.keep (by with_reducible assumption) (Fr.keep (by with_reducible assumption)) | exact Bok.keep (by with_reducible assumption) (Fr.keep (by with_reducible assumption)) | exact TupG.keep (by with_reducible assumption) (Fr.keep (by with_reducible assumption)) | exact ⟨_, by k_extra "GET"⟩ | exact ⟨_, _, _, _, rfl, by k_extra "GET"⟩ | assumption))
  trivial
theorem push_spec {pre post : List (Addr × Obj)} {st bk H S : Addr} {hs : List Value} {n1 : Nat} {v : Value}
    (N : News h₀ L s.heap (pre ++ ([(H, listOf hs.toArray n1)] ++ post))) (sep : ∀ q ∈ pre ++ post, q.1 ∉ [(H, listOf hs.toArray n1)].map (·.1)) (hS : Sto w.params s.heap st bk H S) (hl : hs.length < 99000)
    (ret : ∀ h' tk' t, Fr h₀ L h' m → News h₀ L h' (pre ++ ([(H, listOf (hs ++ [v]).toArray (n1 + 1))] ++ post)) → Q (.int (hs.length : Int) t) { s with heap := h', toks := tk' }) :
    wpAny (model prog w) (ktrTop dp un gd cn cs L a ccd cl outer) (call (.ref 202) [.ref st, v]) Q E s := by
  have N0 := News.loc N
  have NR := News.others N
  k_dflt (refine' enterM (binds := [(Str.ofString "self", .ref st), (Str.ofString "cell", v)]) ?k1 ?k2 ?k3 ?k4 ?kr ?ks ?k5 ?kK ?k8 ?k6 ?k7 ?k9 ?kB ?_ ?c2 ?c3 ?c4 ?c5; k_extra "ENTER")
  intro g L' h' tk F' N' B' X' T' hg
  have hb : ButLists s.heap g := ButLists.of N0 (by simp) hg
  obtain ⟨dst, Tr, kk, u, hst, hdst⟩ := hS.but hb
  have hz : hs.toArray.size ≤ sizeLine := by rw [List.size_toArray, sizeLine_eq]; omega
  (try dsimp only)
  k_extra "STEPS"
  k_extra "LV"
  exact ret _ _ _ (by with_reducible assumption) (News.join (by assumption))
theorem bind0_spec {pre post : List (Addr × Obj)} {st bk H S : Addr} {hs : List Value} {n1 : Nat} {v x : Value} {c : Int × Int}
    (N : News h₀ L s.heap (pre ++ ([(H, listOf hs.toArray n1)] ++ post))) (sep : ∀ q ∈ pre ++ post, q.1 ∉ [(H, listOf hs.toArray n1)].map (·.1)) (hS : Sto w.params s.heap st bk H S) (hl : hs.length < 99000)
    (hv : TupG s.heap v c) (e0 : c.1 = 0) (e1 : 0 ≤ c.2) (e2 : c.2 < hs.length)
    (ret : ∀ h' tk', Fr h₀ L h' m → News h₀ L h' (pre ++ ([(H, listOf (hs.set c.2.toNat x).toArray n1)] ++ post)) → Q .none { s with heap := h', toks := tk' }) :
    wpAny (model prog w) (ktrTop dp un gd cn cs L a ccd cl outer) (call (.ref 244) [.ref st, v, x]) Q E s := by
  have N0 := News.loc N
  have NR := News.others N
  k_dflt (refine' enterM (binds := [(Str.ofString "self", .ref st), (Str.ofString "cell", v), (Str.ofString "value", x)]) ?k1 ?k2 ?k3 ?k4 ?kr ?ks ?k5 ?kK ?k8 ?k6 ?k7 ?k9 ?kB ?_ ?c2 ?c3 ?c4 ?c5; k_extra "ENTER")
  intro g L' h' tk F' N' B' X' T' hg
  have hb : ButLists s.heap g := ButLists.of N0 (by simp) hg
  refine Classical.byContradiction fun nGo => ?_
  obtain ⟨dst, Tr, kk, u, hst, hdst⟩ := hS.but hb
  obtain ⟨ac, t1, t2, nc, rfl, hc⟩ := hv.but hb
  refine nGo ?_; clear nGo
  (try dsimp only)
  k_extra "STEPS"
  k_extra "LV"
  exact ret _ _ (by with_reducible assumption) (News.join (by assumption))
theorem bind1_spec {pre post : List (Addr × Obj)} {st bk H S : Addr} {ss : List Value} {n1 : Nat} {v x : Value} {c : Int × Int}
    (N : News h₀ L s.heap (pre ++ ([(S, listOf ss.toArray n1)] ++ post))) (sep : ∀ q ∈ pre ++ post, q.1 ∉ [(S, listOf ss.toArray n1)].map (·.1)) (hS : Sto w.params s.heap st bk H S) (hl : ss.length < 99000)
    (hv : TupG s.heap v c) (e0 : c.1 = 1) (e1 : 0 ≤ c.2) (e2 : c.2 < ss.length)
    (ret : ∀ h' tk', Fr h₀ L h' m → News h₀ L h' (pre ++ ([(S, listOf (ss.set c.2.toNat x).toArray n1)] ++ post)) → Q .none { s with heap := h', toks := tk' }) :
    wpAny (model prog w) (ktrTop dp un gd cn cs L a ccd cl outer) (call (.ref 244) [.ref st, v, x]) Q E s := by
  have N0 := News.loc N
  have NR := News.others N
  k_dflt (refine' enterM (binds := [(Str.ofString "self", .ref st), (Str.ofString "cell", v), (Str.ofString "value", x)]) ?k1 ?k2 ?k3 ?k4 ?kr ?ks ?k5 ?kK ?k8 ?k6 ?k7 ?k9 ?kB ?_ ?c2 ?c3 ?c4 ?c5; k_extra "ENTER")
  intro g L' h' tk F' N' B' X' T' hg
  have hb : ButLists s.heap g := ButLists.of N0 (by simp) hg
  refine Classical.byContradiction fun nGo => ?_
  obtain ⟨dst, Tr, kk, u, hst, hdst⟩ := hS.but hb
  obtain ⟨ac, t1, t2, nc, rfl, hc⟩ := hv.but hb
  refine nGo ?_; clear nGo
  (try dsimp only)
  k_extra "STEPS"
  k_extra "LV"
  exact ret _ _ (by with_reducible assumption) (News.join (by assumption))
theorem put_spec {pre post : List (Addr × Obj)} {st bk H S : Addr} {ss : List Value} {n1 : Nat} {x : Value} {ti : Tok}
    (N : News h₀ L s.heap (pre ++ ([(S, listOf ss.toArray n1)] ++ post))) (sep : ∀ q ∈ pre ++ post, q.1 ∉ [(S, listOf ss.toArray n1)].map (·.1)) (hS : Sto w.params s.heap st bk H S) (hl : ss.length < 99000)
    (ret : ∀ h' tk', Fr h₀ L h' m → News h₀ L h' (pre ++ ([(S, listOf (ss ++ [x]).toArray (n1 + 1))] ++ post)) → Q .none { s with heap := h', toks := tk' }) :
    wpAny (model prog w) (ktrTop dp un gd cn cs L a ccd cl outer) (call (.ref 279) [.ref st, .int (ss.length : Int) ti, x]) Q E s := by
  have N0 := News.loc N
  have NR := News.others N
  k_dflt (refine' enterM (binds := [(Str.ofString "self", .ref st), (Str.ofString "i", .int (ss.length : Int) ti), (Str.ofString "value", x)]) ?k1 ?k2 ?k3 ?k4 ?kr ?ks ?k5 ?kK ?k8 ?k6 ?k7 ?k9 ?kB ?_ ?c2 ?c3 ?c4 ?c5; k_extra "ENTER")
  intro g L' h' tk F' N' B' X' T' hg
  have hb : ButLists s.heap g := ButLists.of N0 (by simp) hg
  obtain ⟨dst, Tr, kk, u, hst, hdst⟩ := hS.but hb
  (try dsimp only)
  k_extra "STEPS"
  refine WhlIf.no (by simp) ?_
  k_extra "STEPS"
  k_extra "LV"
  exact ret _ _ (by with_reducible assumption) (News.join (by assumption))
end
end Part3
section Part4
section
variable {prog : Program} {w : World} {p : Program} {loose : List Str} {mean : ExcName → Option Value} {mg mb : Str → Option Value} {dp un : Nat} {gd : Option (List Code)} {cn : Str} {cs : Scope} {a : Addr} {ccd : Value} {cl : List (Str × Addr)} {outer : List Env} {A₀ : Around} {base h₀ : Heap} {L : Addr} {m : Str → Option Value} {s : Shared} {Q E : Value → Shared → Prop}
  (B : Below A₀ base outer h₀) (F : Fr h₀ L s.heap m) (X : (Mine.hd.heap_1 w.params).In h₀) (T : Top p loose mean mg mb h₀) (hk : cs.kind = .function) (hd : dp + 10 < recursionLimit) (hu : un + 200 < cLine)
include B F X T hk hd hu
theorem ln5 : True := by
  (k_with "call ref" => ((k_here; (with_reducible show wpAny _ _ (call (Value.ref 202) _) _ _ _); k_dflt (first
  | (refine' push_spec (pre := []) ?B ?F ?X ?T ?hk ?hd ?hu ?N ?sep ?hS ?hl ?_; (case N => assumption))
  | (refine' push_spec (pre := [_]) ?B ?F ?X ?T ?hk ?hd ?hu ?N ?sep ?hS ?hl ?_; (case N => assumption))
  | (refine' push_spec (pre := [_, _]) ?B ?F ?X ?T ?hk ?hd ?hu ?N ?sep ?hS ?hl ?_; (case N => assumption))); k_extra "CTX2"; (case hS => k_extra "KEEP"); (case hl => k_extra "OM"); (case sep => k_extra "SEP"); intro _ _ _ _ nK; (try dsimp only [List.nil_append, List.cons_append, List.append_nil] at nK); revert nK; intro _; k_extra "AFTER")))
  trivial
theorem newvar_spec {pre post : List (Addr × Obj)} {st bk H S : Addr} {hs : List Value} {n1 : Nat}
    (N : News h₀ L s.heap (pre ++ ([(H, listOf hs.toArray n1)] ++ post))) (sep : ∀ q ∈ pre ++ post, q.1 ∉ [(H, listOf hs.toArray n1)].map (·.1)) (hS : Sto w.params s.heap st bk H S) (hl : hs.length < 99000)
    (ret : ∀ h' tk' a' t1 t2, Fr h₀ L h' m → News h₀ L h' (pre ++ ([(a', tupO (0, (hs.length : Int)) t1 t2 0), (H, listOf (hs ++ [Value.ref a']).toArray (n1 + 1))] ++ post)) → Q (.ref a') { s with heap := h', toks := tk' }) :
    wpAny (model prog w) (ktrTop dp un gd cn cs L a ccd cl outer) (call (.ref 209) [.ref st]) Q E s := by
  have N0 := News.loc N
  have NR := News.others N
  k_dflt (refine' enterM (binds := [(Str.ofString "self", .ref st)]) ?k1 ?k2 ?k3 ?k4 ?kr ?ks ?k5 ?kK ?k8 ?k6 ?k7 ?k9 ?kB ?_ ?c2 ?c3 ?c4 ?c5; k_extra "ENTER")
  intro g L' h' tk F' N' B' X' T' hg
  have hb : ButLists s.heap g := ButLists.of N0 (by simp) hg
  have hSg := hS.but hb
  obtain ⟨dst, Tr, kk, u, hst, hdst⟩ := id hSg
  (try dsimp only)
  k_extra "STEPS"
  k_extra "LV"
  exact ret _ _ _ _ _ (by with_reducible assumption) (News.join (by assumption))
end
section
variable {prog : Program} {w : World} {p : Program} {loose : List Str} {mean : ExcName → Option Value} {mg mb : Str → Option Value} {dp un : Nat} {gd : Option (List Code)} {cn : Str} {cs : Scope} {a : Addr} {ccd : Value} {cl : List (Str × Addr)} {outer : List Env} {A₀ : Around} {base h₀ : Heap} {L : Addr} {m : Str → Option Value} {s : Shared} {Q E : Value → Shared → Prop}
  (B : Below A₀ base outer h₀) (F : Fr h₀ L s.heap m) (X : (Mine.hd.heap_1 w.params).In h₀) (T : Top p loose mean mg mb h₀) (hk : cs.kind = .function) (hd : dp + 15 < recursionLimit) (hu : un + 300 < cLine)
include B F X T hk hd hu
theorem ln6 : True := by
  (k_with "call ref" => ((k_here; (with_reducible show wpAny _ _ (call (Value.ref 230) _) _ _ _); k_dflt (refine' deref_spec ?B ?F ?X ?T ?hk ?hd ?hu ?N ?hS ?hH ?hT ?hv ?_; k_extra "CTX"; (case hS => k_extra "KEEP"); (case hv => k_extra "KEEP"); (case hH => k_extra "KEEP"); (case hT => k_extra "KEEP")); intro _ _ _ _; k_extra "AFTER")))
  (k_with "call ref" => ((k_here; (with_reducible show wpAny _ _ (call (Value.ref 209) _) _ _ _); k_dflt (refine' newvar_spec ?B ?F ?X ?T ?hk ?hd ?hu ?N ?sep ?hS ?hl ?_; k_extra "CTX2"; (case hS => k_extra "KEEP"); (case N => k_extra "SPLIT1"); (case hl => k_extra "OM"); (case sep => k_extra "SEP")); intro _ _ _ _ _ _ nK; (try dsimp only [List.nil_append, List.cons_append, List.append_nil] at nK); revert nK; intro _; k_extra "AFTER")))
  (k_with "call ref" => ((k_here; (with_reducible show wpAny _ _ (call (Value.ref 244) _) _ _ _); k_dflt (refine' bind1_spec ?B ?F ?X ?T ?hk ?hd ?hu ?N ?sep ?hS ?hl ?hv ?e0 ?e1 ?e2 ?_; k_extra "CTX2"; (case hS => k_extra "KEEP"); (case N => k_extra "SPLIT1"); (case hv => k_extra "KEEP"); (case e0 => assumption); (case e1 => assumption); (case e2 => assumption); (case hl => k_extra "OM"); (case sep => k_extra "SEP")); intro _ _ _ nK; (try dsimp only [List.nil_append, List.cons_append, List.append_nil] at nK); revert nK; intro _; k_extra "AFTER")))
  (k_with "call ref" => ((k_here; (with_reducible show wpAny _ _ (call (Value.ref 244) _) _ _ _); k_dflt (refine' bind0_spec ?B ?F ?X ?T ?hk ?hd ?hu ?N ?sep ?hS ?hl ?hv ?e0 ?e1 ?e2 ?_; k_extra "CTX2"; (case hS => k_extra "KEEP"); (case N => k_extra "SPLIT1"); (case hv => k_extra "KEEP"); (case e0 => first | assumption | exact rfl); (case e1 => first | assumption | ((try dsimp only); omega)); (case e2 => first | assumption | ((try dsimp only); (try simp only [List.length_append, List.length_cons, List.length_nil, List.length_set]); omega)); (case hl => k_extra "OM"); (case sep => k_extra "SEP")); intro _ _ _ nK; (try dsimp only [List.nil_append, List.cons_append, List.append_nil] at nK); revert nK; intro _; k_extra "AFTER")))
  trivial
theorem glob0_spec {news : List (Addr × Obj)} {st bk H S : Addr} {hs ss : List Value} {k : Nat} {v r : Value} {d : Int × Int}
    (N : News h₀ L s.heap news) (hS : Sto w.params s.heap st bk H S) (hH : LstG s.heap H hs) (hT : LstG s.heap S ss) (hv : DerV s.heap hs ss k v r d) (hr : TupG s.heap r d) (e1 : d.1 ≠ 1)
    (ret : ∀ h' tk', Fr h₀ L h' m → News h₀ L h' news → Q r { s with heap := h', toks := tk' }) :
    wpAny (model prog w) (ktrTop dp un gd cn cs L a ccd cl outer) (call (.ref 258) [.ref st, v]) Q E s := by
  have N0 : News h₀ L s.heap [] := News.nil
  have sep : ∀ q ∈ news, q.1 ∉ ([] : List (Addr × Obj)).map (·.1) := fun _ _ h => nomatch h
  k_dflt (refine' enterM (binds := [(Str.ofString "self", .ref st), (Str.ofString "cell", v)]) ?k1 ?k2 ?k3 ?k4 ?kr ?ks ?k5 ?kK ?k8 ?k6 ?k7 ?k9 ?kB ?_ ?c2 ?c3 ?c4 ?c5; k_extra "ENTER")
  intro g L' h' tk F' N' B' X' T' hg
  have hg : ∀ b o, s.heap.get? b = some o → g.get? b = some o := fun b o e => hg b o e (fun h => nomatch h)
  have hSg := hS.keep hg
  refine Classical.byContradiction fun nGo => ?_
  obtain ⟨dst, Tr, kk, u, hst, hdst⟩ := id hSg
  obtain ⟨n1, hH⟩ := hH
  obtain ⟨n2, hT⟩ := hT
  replace hH := hg _ _ hH
  replace hT := hg _ _ hT
  replace hv := hv.keep hg
  have hrg := hr.keep hg
  obtain ⟨ac, t1, t2, nc, rfl, hc⟩ := id hrg
  refine nGo ?_; clear nGo
  (try dsimp only)
  k_extra "STEPS"
  k_extra "LV"
  exact ret _ _ (by with_reducible assumption) (by with_reducible assumption)
theorem glob1_spec {pre post : List (Addr × Obj)} {st bk H S : Addr} {hs ss : List Value} {n1 n2 k : Nat} {v r : Value} {d : Int × Int}
    (N : News h₀ L s.heap (pre ++ ([(H, listOf hs.toArray n1), (S, listOf ss.toArray n2)] ++ post))) (sep : ∀ q ∈ pre ++ post, q.1 ∉ [(H, listOf hs.toArray n1), (S, listOf ss.toArray n2)].map (·.1)) (hne : ¬ H = S)
    (hS : Sto w.params s.heap st bk H S) (hv : DerV s.heap hs ss k v r d) (hr : TupG s.heap r d) (e1 : d.1 = 1) (e2 : 0 ≤ d.2) (e3 : d.2 < ss.length) (hl : hs.length < 99000) (hl2 : ss.length < 99000)
    (ret : ∀ h' tk' a' t1 t2, Fr h₀ L h' m → News h₀ L h' (pre ++ ([(a', tupO (0, (hs.length : Int)) t1 t2 0), (H, listOf (hs ++ [Value.ref a']).toArray (n1 + 1)), (S, listOf (ss.set d.2.toNat (Value.ref a')).toArray n2)] ++ post)) → Q (.ref a') { s with heap := h', toks := tk' }) :
    wpAny (model prog w) (ktrTop dp un gd cn cs L a ccd cl outer) (call (.ref 258) [.ref st, v]) Q E s := by
  have N0 := News.loc N
  have NR := News.others N
  k_dflt (refine' enterM (binds := [(Str.ofString "self", .ref st), (Str.ofString "cell", v)]) ?k1 ?k2 ?k3 ?k4 ?kr ?ks ?k5 ?kK ?k8 ?k6 ?k7 ?k9 ?kB ?_ ?c2 ?c3 ?c4 ?c5; k_extra "ENTER")
  intro g L' h' tk F' N' B' X' T' hg
  have hb : ButLists s.heap g := ButLists.of N0 (by simp) hg
  have hSg := hS.but hb
  refine Classical.byContradiction fun nGo => ?_
  obtain ⟨dst, Tr, kk, u, hst, hdst⟩ := id hSg
  replace hv := hv.but hb
  have hrg := hr.but hb
  obtain ⟨ac, t1, t2, nc, rfl, hc⟩ := id hrg
  refine nGo ?_; clear nGo
  (try dsimp only)
  k_extra "STEPS"
  k_extra "LV"
  exact ret _ _ _ _ _ (by with_reducible assumption) (News.join (by assumption))
end
end Part4
section Part5
section
variable {prog : Program} {w : World} {p : Program} {loose : List Str} {mean : ExcName → Option Value} {mg mb : Str → Option Value} {dp un : Nat} {gd : Option (List Code)} {cn : Str} {cs : Scope} {a : Addr} {ccd : Value} {cl : List (Str × Addr)} {outer : List Env} {A₀ : Around} {base h₀ : Heap} {L : Addr} {m : Str → Option Value} {s : Shared} {Q E : Value → Shared → Prop}
  (B : Below A₀ base outer h₀) (F : Fr h₀ L s.heap m) (X : (Mine.hd.heap_1 w.params).In h₀) (T : Top p loose mean mg mb h₀) (hk : cs.kind = .function) (hd : dp + 5 < recursionLimit) (hu : un + 100 < cLine)
include B F X T hk hd hu
theorem ln7 : True := by
  k_with_none
  (k_with "LIT0" => (first | with_reducible assumption | ((first | (with_reducible show @LE.le Nat _ (OfNat.ofNat _) (OfNat.ofNat _)) | (with_reducible show @LT.lt Nat _ (OfNat.ofNat _) (OfNat.ofNat _))); exact Nat.le_of_ble_eq_true rfl)))
  (k_with "LIT1" => (first | with_reducible assumption | (with_reducible refine' Nat.lt_of_lt_of_le ?ha ?hb; (case ha => with_reducible assumption); (case hb => k_extra "LIT0")) | (with_reducible refine' Nat.lt_of_le_of_lt ?ha ?hb; (case ha => with_reducible assumption); (case hb => k_extra "LIT0")) | (with_reducible refine' Nat.le_trans ?ha ?hb; (case ha => with_reducible assumption); (case hb => k_extra "LIT0")) | (with_reducible refine' Nat.le_of_lt (Nat.lt_of_lt_of_le ?ha ?hb); (case ha => with_reducible assumption); (case hb => k_extra "LIT0")) | (with_reducible refine' Nat.lt_of_le_of_lt (Nat.le_of_eq ?ha) ?hb; (case ha => with_reducible assumption); (case hb => k_extra "LIT0")) | (with_reducible refine' Nat.le_trans (Nat.le_of_eq ?ha) ?hb; (case ha => with_reducible assumption); (case hb => k_extra "LIT0"))))
  (k_with "LIT2" => (first | with_reducible assumption | (with_reducible refine' Nat.lt_of_lt_of_le ?ha ?hb; (case ha => with_reducible assumption); (case hb => k_extra "LIT1")) | (with_reducible refine' Nat.lt_of_le_of_lt ?ha ?hb; (case ha => with_reducible assumption); (case hb => k_extra "LIT1")) | (with_reducible refine' Nat.le_trans ?ha ?hb; (case ha => with_reducible assumption); (case hb => k_extra "LIT1")) | (with_reducible refine' Nat.le_of_lt (Nat.lt_of_lt_of_le ?ha ?hb); (case ha => with_reducible assumption); (case hb => k_extra "LIT1")) | (with_reducible refine' Nat.lt_of_le_of_lt (Nat.le_of_eq ?ha) ?hb; (case ha => with_reducible assumption); (case hb => k_extra "LIT1")) | (with_reducible refine' Nat.le_trans (Nat.le_of_eq ?ha) ?hb; (case ha => with_reducible assumption); (case hb => k_extra "LIT1"))))
  (k_with "OM" => (first | with_reducible assumption | with_reducible exact Int.natCast_nonneg _ | with_reducible exact Int.ofNat_lt.mpr (by with_reducible assumption) | with_reducible exact i63 (by k_extra "LIT2") | k_extra "LIT2" | omega))
  (k_with "LTC" => (first | with_reducible assumption | (refine' Nat.lt_trans ?ha ?hb; (case ha => with_reducible assumption); (case hb => k_extra "LTC"))))
  (k_with "NEC" => ((refine neN ?_; (try dsimp only); first | (refine' Nat.ne_of_lt ?hc; (case hc => k_extra "LTC")) | (refine' Nat.ne_of_gt ?hc; (case hc => k_extra "LTC")) | omega)))
  (k_with "ROOMN" => (first | (refine' roomN ?ha (Nat.add_assoc _ _ _) ?hb; (case ha => with_reducible assumption); (case hb => exact rfl)) | (refine' roomN ?ha rfl ?hb; (case ha => with_reducible assumption); (case hb => exact rfl)) | (refine' roomN ?ha ((Nat.add_assoc _ _ _).trans (Nat.add_assoc _ _ _)) ?hb; (case ha => with_reducible assumption); (case hb => exact rfl)) | exact Nat.lt_of_le_of_lt (Nat.le_add_right _ _) (by with_reducible assumption)))
  (k_with "MKUNITS" => (first | k_extra "ROOMN" | ktr_units))
  (k_with "MKNE" => (first | k_extra "NEC" | ((try dsimp only); assumption) | ((try dsimp only); exact Ne.symm (by assumption)) | ((try dsimp only); exact News.ne (by with_reducible assumption) (by k_mem) (by k_mem) (ne_typ rfl))))
  (k_with "MKALL" => (first | assumption | exact List.forall_mem_nil _ | (refine' List.forall_mem_cons.mpr ⟨?a, ?b⟩; (case a => k_ne); (case b => k_all))))
  (k_with "GET" => (first | exact Fr.keep (by with_reducible assumption) _ _ (by with_reducible assumption) | exact News.get (by with_reducible assumption) (by k_mem)))
  (k_with "MKINST" => (exact instG (by k_extra "GET") (by k_extra "GET")))
  (k_with "MISLIST" => (exact isListG (by k_extra "GET")))
  (k_with "ENTER" => (((case ks => assumption); (case k1 => assumption); (case k2 => assumption); (case k3 => assumption); (case k4 => assumption); (case kr => assumption); (case k5 => assumption); (case kK => assumption); (case k8 => first | k_extra "ROOMN" | ktr_room); (case k6 => k_is); (case k7 => k_is); (case k9 => exact BindsTo.of_eq rfl); (case kB => exact locs rfl); (case c2 => exact rfl); (case c3 => exact rfl); (case c4 => exact rfl); (case c5 => decide))))
  (k_with "subscriptTail" => ((k_here; (with_reducible show wpAny _ _ (subscriptTail _ _ (Value.ref _) (Value.int _ _)) _ _ _); k_dflt (refine' item_list ?k1 ?k2 ?k3 ?k4 ?_; (case k1 => is_list); (case k4 => assumption); (case k2 => k_extra "OM"); (case k3 => k_extra "OM")))))
  (k_with "subscriptTail" => ((k_here; (with_reducible show wpAny _ _ (subscriptTail _ _ (Value.ref _) (Value.int 1 _)) _ _ _); k_dflt (refine' item_tup1 ?k1 ?_; (case k1 => k_extra "GET")))))
  (k_with "subscriptTail" => ((k_here; (with_reducible show wpAny _ _ (subscriptTail _ _ (Value.ref _) (Value.int 0 _)) _ _ _); k_dflt (refine' item_tup0 ?k1 ?_; (case k1 => k_extra "GET")))))
  (k_with "compareOp Eq ref ref" => ((k_here; (with_reducible show wpAny _ _ (compareOp CmpOp.Eq (Value.ref _) (Value.ref _)) _ _ _); k_dflt (refine' eq_tup ?k1 ?k2 ?k3 ?_; (case k1 => k_extra "GET"); (case k2 => k_extra "GET"); (case k3 => k_units)))))
  (k_with "ite" => (first | (refine ite_pos ?c ?_; (case c => ((try simp only [decide_eq_true_eq, beq_iff_eq, Bool.not_eq_true', decide_eq_false_iff_not, ne_eq]); first | assumption | omega))) | (refine ite_neg ?c ?_; (case c => ((try simp only [decide_eq_true_eq, beq_iff_eq, Bool.not_eq_true', decide_eq_false_iff_not, ne_eq]); first | assumption | omega)))))
  (k_with "execs cons" => (((with_reducible refine wpAny_execs_cons ?_); (try dsimp only); k_fold)))
  (k_with "STEPS" => (((try k_fold); (repeat' (first | walk1 | (k_unfold; (try dsimp only)) | (dsimp only; walk1))); (all_goals (try dsimp only)))))
  (k_with "LV" => (((try dsimp only [WhileStep2]); refine' LeaveM.mk ?k1 ?k2 ?_; (case k1 => with_reducible assumption); (case k2 => with_reducible assumption); intro _ nK; (try dsimp only [List.nil_append, List.cons_append] at nK); revert nK; intro _; (try dsimp only))))
  (k_with "ROOM" => (first | k_extra "ROOMN" | (simp only [recursionLimit, cLine] at *; omega)))
  (k_with "CTX" => (((case B => with_reducible assumption); (case F => with_reducible assumption); (case X => with_reducible assumption); (case T => with_reducible assumption); (case hk => first | exact rfl | assumption); (case hd => k_extra "ROOM"); (case hu => k_extra "ROOM"); (case N => with_reducible assumption))))
  (k_with "KEEP" => (first | with_reducible assumption | exact DerV.keep (by with_reducible assumption) (Fr.keep (by with_reducible assumption)) | exact Sto.keep (by with_reducible assumption) (Fr.keep (by with_reducible assumption)) | exact Bok.keep (by with_reducible assumption) (Fr.keep (by with_reducible assumption)) | exact TupG.keep (by with_reducible assumption) (Fr.keep (by with_reducible assumption)) | exact ⟨_, by k_extra "GET"⟩ | exact ⟨_, _, _, _, rfl, by k_extra "GET"⟩ | assumption))
  (k_with "AFTER" => (((try dsimp only); (try k_sweep))))
  (k_with "call builtin:len" => ((k_here; (with_reducible show wpAny _ _ (call (Value.builtin "len") [Value.ref _]) _ _ _); k_dflt (refine' len_any ?k1 ?k2 ?_; (case k1 => is_list); (case k2 => first | with_reducible assumption | ((try simp only [List.length_append, List.length_cons, List.length_nil, List.length_set]); omega))))))
  (k_with "call builtin:list.append" => ((k_here; (with_reducible show wpAny _ _ (call (Value.builtin _) [Value.ref _, _]) _ _ _); k_dflt (refine' append_any ?k1 ?k2 ?k3 ?_ ?z; (case k1 => k_asm); (case k2 => k_asm); (case k3 => k_upd); (case z => first | with_reducible assumption | ((try simp only [List.length_append, List.length_cons, List.length_nil, List.length_set]); omega)); k_whole); intro _ _ _; (try k_sweep))))
  (k_with "setItem ref int" => ((k_here; (with_reducible show wpAny _ _ (setItem (Value.ref _) (Value.int _ _) _) _ _ _); k_dflt (refine' set_any ?k1 ?k2 ?k3 ?k4 ?k5 ?k6 ?_; (case k1 => k_asm); (case k2 => k_asm); (case k3 => k_upd); (case k4 => k_extra "OM"); (case k5 => first | with_reducible assumption | ((try simp only [List.length_append, List.length_cons, List.length_nil, List.length_set]); omega)); (case k6 => k_extra "OM"); k_whole); intro _ _ _; (try k_sweep))))
  (k_with "CTX2" => (((case B => with_reducible assumption); (case F => with_reducible assumption); (case X => with_reducible assumption); (case T => with_reducible assumption); (case hk => first | exact rfl | assumption); (case hd => k_extra "ROOM"); (case hu => k_extra "ROOM"))))
  (k_with "SEP" => (((repeat' (first | assumption | exact sep_nil | refine sep_app ?_ ?_ | refine sep_cons ?_ ?_)); (all_goals ((repeat' (first | exact nmNil | refine nmCons ?_ ?_)); all_goals first | assumption | k_extra "NEC" | exact Ne.symm (by assumption) | exact News.ne (by with_reducible assumption) (by k_mem) (by k_mem) (ne_typ rfl))))))
  (k_with "SPLIT1" => (first | (refine' News.at0 ?n; (case n => with_reducible assumption)) | (refine' News.at1 ?n; (case n => with_reducible assumption)) | (refine' News.at2 ?n; (case n => with_reducible assumption)) | (refine' News.at3 ?n; (case n => with_reducible assumption)) | (refine' News.at4 ?n; (case n => with_reducible assumption)) | (refine' News.at5 ?n; (case n => with_reducible assumption)) | (refine' News.at6 ?n; (case n => with_reducible assumption))))
  (k_with "pyIter ref" => (refine stopHere ?_))
  (k_with "SEPI" => (((repeat' (first | assumption | exact sep_nil | refine sep_app ?_ ?_ | refine sep_cons ?_ ?_)); (all_goals ((try dsimp only); first | assumption | k_extra "NEC" | exact Ne.symm (by assumption))))))
  (k_with "SUBT" => (first | exact sub_refl | (refine sub_cons ?_; k_extra "SUBT") | (refine sub_right ?_; k_extra "SUBT") | (refine sub_left ?_; k_extra "SUBT")))
  (k_with "MEM" => (first | exact memH | (with_reducible refine List.mem_append_right _ ?_; k_extra "MEM") | (with_reducible refine List.mem_append_left _ ?_; k_extra "MEM") | (with_reducible refine memT ?_; k_extra "MEM")))
  (k_with "SUBT2" => (first | exact sub_refl | (with_reducible refine sub_right ?_; k_extra "SUBT2") | (with_reducible refine sub_left ?_; k_extra "SUBT2") | (with_reducible refine sub_cons ?_; k_extra "SUBT2")))
  (k_with "SUBM" => (((repeat' (first | exact sep_nil | refine sep_app ?_ ?_ | refine sep_cons ?_ ?_)); (all_goals first | k_extra "MEM" | k_extra "SUBT2"))))
  (k_with "SUB" => (((repeat' (first | exact sep_nil | refine sep_app ?_ ?_ | refine sep_cons ?_ ?_)); (all_goals first | k_mem | k_extra "MEM" | k_extra "SUBT2" | (simp only [List.mem_append, List.mem_cons, List.not_mem_nil, true_or, or_true, or_false, false_or]; done) | (intro _ hx9; simp only [hx9, List.mem_append, List.mem_cons, List.not_mem_nil, true_or, or_true, or_false, false_or]; done) | k_extra "SUBT"))))
  (k_with "exec For Name Name cons nil" => ((k_here; (with_unfolding_all refine' For_invVF ?kF ?k1 ?k2 ?_; (case kF => assumption); (case k1 => exact rfl); (case k2 => exact rfl); k_whole))))
  (k_with "exec For Name Call cons nil" => ((k_here; (with_unfolding_all refine' For_invVF ?kF ?k1 ?k2 ?_; (case kF => assumption); (case k1 => exact rfl); (case k2 => exact rfl); k_whole))))
  (k_with "exec For Name Subscript cons nil" => ((k_here; (with_unfolding_all refine' For_invVF ?kF ?k1 ?k2 ?_; (case kF => assumption); (case k1 => exact rfl); (case k2 => exact rfl); k_whole))))
  (k_with "exec For Name Attribute cons nil" => ((k_here; (with_unfolding_all refine' For_invVF ?kF ?k1 ?k2 ?_; (case kF => assumption); (case k1 => exact rfl); (case k2 => exact rfl); k_whole))))
  (k_with "KEEP" => (first | with_reducible assumption | exact DerV.keep (by with_reducible assumption) (Fr.keep (by with_reducible assumption)) | exact Sto.keep (by with_reducible assumption) (Fr.keep (by with_reducible assumption)) | exact Bok.keep (by with_reducible assumption) (Fr.keep (by with_reducible assumption)) | exact TupG.keep (by with_reducible assumption) (Fr.keep (by with_reducible assumption)) | exact ⟨_, by k_extra "GET"⟩ | exact ⟨_, _, _, _, rfl, by k_extra "GET"⟩ | assumption))
  (k_with "call ref" => ((k_here; (with_reducible show wpAny _ _ (call (Value.ref 230) _) _ _ _); k_dflt (refine' deref_spec ?B ?F ?X ?T ?hk ?hd ?hu ?N ?hS ?hH ?hT ?hv ?_; k_extra "CTX"; (case hS => k_extra "KEEP"); (case hv => k_extra "KEEP"); (case hH => k_extra "KEEP"); (case hT => k_extra "KEEP")); intro _ _ _ _; k_extra "AFTER")))
  (k_with "call ref" => ((k_here; (with_reducible show wpAny _ _ (call (Value.ref 209) _) _ _ _); k_dflt (refine' newvar_spec ?B ?F ?X ?T ?hk ?hd ?hu ?N ?sep ?hS ?hl ?_; k_extra "CTX2"; (case hS => k_extra "KEEP"); (case N => k_extra "SPLIT1"); (case hl => k_extra "OM"); (case sep => k_extra "SEP")); intro _ _ _ _ _ _ nK; (try dsimp only [List.nil_append, List.cons_append, List.append_nil] at nK); revert nK; intro _; k_extra "AFTER")))
  (k_with "call ref" => ((k_here; (with_reducible show wpAny _ _ (call (Value.ref 244) _) _ _ _); k_dflt (refine' bind1_spec ?B ?F ?X ?T ?hk ?hd ?hu ?N ?sep ?hS ?hl ?hv ?e0 ?e1 ?e2 ?_; k_extra "CTX2"; (case hS => k_extra "KEEP"); (case N => k_extra "SPLIT1"); (case hv => k_extra "KEEP"); (case e0 => assumption); (case e1 => assumption); (case e2 => assumption); (case hl => k_extra "OM"); (case sep => k_extra "SEP")); intro _ _ _ nK; (try dsimp only [List.nil_append, List.cons_append, List.append_nil] at nK); revert nK; intro _; k_extra "AFTER")))
  (k_with "call ref" => ((k_here; (with_reducible show wpAny _ _ (call (Value.ref 244) _) _ _ _); k_dflt (refine' bind0_spec ?B ?F ?X ?T ?hk ?hd ?hu ?N ?sep ?hS ?hl ?hv ?e0 ?e1 ?e2 ?_; k_extra "CTX2"; (case hS => k_extra "KEEP"); (case N => k_extra "SPLIT1"); (case hv => k_extra "KEEP"); (case e0 => first | assumption | exact rfl); (case e1 => first | assumption | ((try dsimp only); omega)); (case e2 => first | assumption | ((try dsimp only); (try simp only [List.length_append, List.length_cons, List.length_nil, List.length_set]); omega)); (case hl => k_extra "OM"); (case sep => k_extra "SEP")); intro _ _ _ nK; (try dsimp only [List.nil_append, List.cons_append, List.append_nil] at nK); revert nK; intro _; k_extra "AFTER")))
  trivial
theorem reserve_spec {pre post : List (Addr × Obj)} {st bk H S : Addr} {hs : List Value} {n1 : Nat} {k : Nat} {ck : Int} {tc : Tok}
    (N : News h₀ L s.heap (pre ++ ([(H, listOf hs.toArray n1)] ++ post))) (sep : ∀ q ∈ pre ++ post, q.1 ∉ [(H, listOf hs.toArray n1)].map (·.1)) (hS : Sto w.params s.heap st bk H S) (hl : hs.length < 90000) (hk2 : k ≤ 100) (hc : ck = (k : Int))
    (ret : ∀ h' tk' t xs n, xs.length = k → Fr h₀ L h' m → News h₀ L h' (pre ++ ([(H, listOf (hs ++ xs).toArray n)] ++ post)) → Q (.int (hs.length : Int) t) { s with heap := h', toks := tk' }) :
    wpAny (model prog w) (ktrTop dp un gd cn cs L a ccd cl outer) (call (.ref 216) [.ref st, .int ck tc]) Q E s := by
  subst hc
  have N0 := News.loc N
  have NR := News.others N
  k_dflt (refine' enterM (binds := [(Str.ofString "self", .ref st), (Str.ofString "count", .int (k : Int) tc)]) ?k1 ?k2 ?k3 ?k4 ?kr ?ks ?k5 ?kK ?k8 ?k6 ?k7 ?k9 ?kB ?_ ?c2 ?c3 ?c4 ?c5; k_extra "ENTER")
  intro g L' h' tk F' N' B' X' T' hg
  have hb : ButLists s.heap g := ButLists.of N0 (by simp) hg
  have hSg := hS.but hb
  obtain ⟨dst, Tr, kk, u, hst, hdst⟩ := id hSg
  (try dsimp only)
  k_extra "STEPS"
  refine for_range (L := L') (n := k) (fun i m news => ∃ xs n tf, Agree m [(Str.ofString "self", .ref st), (Str.ofString "first", .int (hs.length : Int) tf)] ∧ news = [(H, listOf (hs ++ xs).toArray n)] ∧ xs.length = i) rfl rfl (by assumption) (range0_small (by k_extra "OM")) range0_size (by assumption) (by assumption) ⟨[], n1, _, .cons rfl (.cons rfl .nil), by rw [List.append_nil], rfl⟩ ?_ ?_
  · intro i t m₁ news₁ h₁ tk₁ I oI hi hR9 hne cI F₁ N₁; obtain ⟨xs, n, tf, ag, rfl, hx⟩ := hR9
    rw [ag.form] at F₁
    rw [show (0 : Int) + (i : Int) * 1 = (i : Int) by omega] at F₁
    have hHI : ¬ H = I := hne _ (.head _)
    clear hne ag
    k_sweep
    (try dsimp only)
    k_extra "STEPS"
    rename News _ _ _ _ => N9
    simp only [List.append_assoc] at N9
    exact TurnJ.next (by assumption) (News.sub N9 (sep_app (sep_cons (by k_mem) sep_nil) (sep_cons (by k_mem) sep_nil))) (by k_extra "SEPI") ⟨xs ++ [_], n + 1, _, .cons rfl (.cons rfl .nil), rfl, by simp [hx]⟩
  · intro m₁ news₁ h₁ tk₁ hR4 F₁ N₁; obtain ⟨xs, n, tf, ag, rfl, hx⟩ := hR4
    replace F₁ := Fr.form F₁ ag
    (try dsimp only)
    k_extra "STEPS"
    k_extra "LV"
    exact ret _ _ _ _ _ hx (by with_reducible assumption) (News.join (by assumption))
end
end Part5
section Part6
section
variable {prog : Program} {w : World} {p : Program} {loose : List Str} {mean : ExcName → Option Value} {mg mb : Str → Option Value} {dp un : Nat} {gd : Option (List Code)} {cn : Str} {cs : Scope} {a : Addr} {ccd : Value} {cl : List (Str × Addr)} {outer : List Env} {A₀ : Around} {base h₀ : Heap} {L : Addr} {m : Str → Option Value} {s : Shared} {Q E : Value → Shared → Prop}
  (B : Below A₀ base outer h₀) (F : Fr h₀ L s.heap m) (X : (Mine.hd.heap_1 w.params).In h₀) (T : Top p loose mean mg mb h₀) (hk : cs.kind = .function) (hd : dp + 10 < recursionLimit) (hu : un + 200 < cLine)
include B F X T hk hd hu
theorem ln8 : True := by
  (k_with "call ref" => ((k_here; (with_reducible show wpAny _ _ (call (Value.ref 123) _) _ _ _); k_dflt (refine' arity_spec ?B ?F ?X ?T ?hk ?hd ?hu ?N ?hB ?hF ?h0 ?h1 ?hx ?hv ?_; k_extra "CTX"; (case hB => k_extra "KEEP"); (case hF => k_extra "KEEP"); (case hx => assumption); (case h0 => k_extra "OM"); (case h1 => k_extra "OM"); (case hv => k_extra "KEEP")); intro _ _ _ _ _; k_extra "AFTER")))
  (k_with "call ref" => ((k_here; (with_reducible show wpAny _ _ (call (Value.ref 216) _) _ _ _); k_dflt (refine' reserve_spec ?B ?F ?X ?T ?hk ?hd ?hu ?N ?sep ?hS ?hl ?hk2 ?hc ?_; k_extra "CTX2"; (case hS => k_extra "KEEP"); (case N => k_extra "SPLIT1"); (case hl => k_extra "OM"); (case hc => assumption); (case hk2 => k_extra "OM"); (case sep => k_extra "SEP")); intro _ _ _ _ _ _ _ nK; (try dsimp only [List.nil_append, List.cons_append, List.append_nil] at nK); revert nK; intro _; k_extra "AFTER")))
  trivial
theorem block0_spec {pre post : List (Addr × Obj)} {st bk H S : Addr} {hs : List Value} {n1 : Nat} {tf : Tok}
    (N : News h₀ L s.heap (pre ++ ([(H, listOf hs.toArray n1)] ++ post))) (sep : ∀ q ∈ pre ++ post, q.1 ∉ [(H, listOf hs.toArray n1)].map (·.1)) (hS : Sto w.params s.heap st bk H S) (hl : hs.length < 90000)
    (ret : ∀ h' tk' a' t1 t2 xs n, xs.length = 2 → Fr h₀ L h' m → News h₀ L h' (pre ++ ([(a', tupO (3, (hs.length : Int)) t1 t2 0), (H, listOf (hs ++ xs).toArray n)] ++ post)) → Q (.ref a') { s with heap := h', toks := tk' }) :
    wpAny (model prog w) (ktrTop dp un gd cn cs L a ccd cl outer) (call (.ref 321) [.ref st, .int 0 tf]) Q E s := by
  have N0 := News.loc N
  have NR := News.others N
  k_dflt (refine' enterM (binds := [(Str.ofString "self", .ref st), (Str.ofString "f", .int 0 tf)]) ?k1 ?k2 ?k3 ?k4 ?kr ?ks ?k5 ?kK ?k8 ?k6 ?k7 ?k9 ?kB ?_ ?c2 ?c3 ?c4 ?c5; k_extra "ENTER")
  intro g L' h' tk F' N' B' X' T' hg
  have hb : ButLists s.heap g := ButLists.of N0 (by simp) hg
  have hSg := hS.but hb
  obtain ⟨dst, Tr, kk, u, hst, hdst⟩ := id hSg
  have e2k : (2 : Int) = ((2 : Nat) : Int) := rfl
  (try dsimp only)
  k_extra "STEPS"
  k_extra "LV"
  exact ret _ _ _ _ _ _ _ (by assumption) (by with_reducible assumption) (News.join (by assumption))
theorem block1_spec {pre post : List (Addr × Obj)} {st bk H S TX AN FL FN : Addr} {hs fl : List Value} {n1 : Nat} {f : Int} {tf : Tok} {av : Value} {at_ : Int} {k : Nat}
    (N : News h₀ L s.heap (pre ++ ([(H, listOf hs.toArray n1)] ++ post))) (sep : ∀ q ∈ pre ++ post, q.1 ∉ [(H, listOf hs.toArray n1)].map (·.1)) (hS : Sto w.params s.heap st bk H S) (hl : hs.length < 90000)
    (hB : Bok w.params s.heap bk TX AN FL FN) (hF : LstG s.heap FL fl) (hFH : ¬ FL = H) (f0 : 0 < f) (f1 : f < 1000000) (hx : fl[f.toNat]? = some av) (hav : TupG s.heap av (at_, (k : Int))) (hk1 : k ≤ 50)
    (ret : ∀ h' tk' a' t1 t2 b' t3 t4 xs n, xs.length = k → Fr h₀ L h' m → News h₀ L h' (pre ++ ([(a', tupO (2, (hs.length : Int)) t1 t2 0), (b', tupO (6, f) t3 t4 0), (H, listOf (hs ++ (Value.ref b' :: xs)).toArray n)] ++ post)) → Q (.ref a') { s with heap := h', toks := tk' }) :
    wpAny (model prog w) (ktrTop dp un gd cn cs L a ccd cl outer) (call (.ref 321) [.ref st, .int f tf]) Q E s := by
  have N0 := News.loc N
  have NR := News.others N
  k_dflt (refine' enterM (binds := [(Str.ofString "self", .ref st), (Str.ofString "f", .int f tf)]) ?k1 ?k2 ?k3 ?k4 ?kr ?ks ?k5 ?kK ?k8 ?k6 ?k7 ?k9 ?kB ?_ ?c2 ?c3 ?c4 ?c5; k_extra "ENTER")
  intro g L' h' tk F' N' B' X' T' hg
  have hb : ButLists s.heap g := ButLists.of N0 (by simp) hg
  have hSg := hS.but hb
  have hBg := hB.but hb
  have havg := hav.but hb
  refine Classical.byContradiction fun nGo => ?_
  obtain ⟨n2, hF⟩ := hF
  replace hF := hg _ _ hF (by simpa using hFH)
  obtain ⟨dst, Tr, kk, u, hst, hdst⟩ := id hSg
  obtain ⟨dbk, kb, hbk, hdbk⟩ := id hBg
  refine nGo ?_; clear nGo
  have e1k : (1 : Int) + (k : Int) = ((k + 1 : Nat) : Int) := by omega
  (try dsimp only)
  k_extra "STEPS"
  show LeaveM _ _ _ _ _ _ _ _
  (try dsimp only)
  rename News _ _ _ _ => N9
  rename List.length _ = k + 1 => hx9
  obtain ⟨t9, ht9, e9⟩ := set_mid (hs := hs) hx9
  rw [e9] at N9
  k_extra "LV"
  exact ret _ _ _ _ _ _ _ _ _ _ ht9 (by with_reducible assumption) (News.join (by assumption))
end
end Part6
section Part7
inductive Der (H S : List (Int × Int)) : Nat → Int × Int → Int × Int → Prop where
  | stop {c} : c.1 ≠ 0 → c.1 ≠ 1 → Der H S 0 c c
  | self0 {c} : c.1 = 0 → 0 ≤ c.2 → H[c.2.toNat]? = some c → Der H S 0 c c
  | self1 {c} : c.1 = 1 → 0 ≤ c.2 → S[c.2.toNat]? = some c → Der H S 0 c c
  | step0 {n c c' d} : c.1 = 0 → 0 ≤ c.2 → H[c.2.toNat]? = some c' → c' ≠ c → Der H S n c' d → Der H S (n + 1) c d
  | step1 {n c c' d} : c.1 = 1 → 0 ≤ c.2 → S[c.2.toNat]? = some c' → c' ≠ c → Der H S n c' d → Der H S (n + 1) c d
noncomputable def TupL (tl : List (Addr × Obj)) (v : Value) (c : Int × Int) : Prop := ∃ a t1 t2, v = .ref a ∧ (a, tupO c t1 t2 0) ∈ tl
theorem ln9 : True := by
  k_with_none
  (k_with "LIT0" => (first | with_reducible assumption | ((first | (with_reducible show @LE.le Nat _ (OfNat.ofNat _) (OfNat.ofNat _)) | (with_reducible show @LT.lt Nat _ (OfNat.ofNat _) (OfNat.ofNat _))); exact Nat.le_of_ble_eq_true rfl)))
  (k_with "LIT1" => (first | with_reducible assumption | (with_reducible refine' Nat.lt_of_lt_of_le ?ha ?hb; (case ha => with_reducible assumption); (case hb => k_extra "LIT0")) | (with_reducible refine' Nat.lt_of_le_of_lt ?ha ?hb; (case ha => with_reducible assumption); (case hb => k_extra "LIT0")) | (with_reducible refine' Nat.le_trans ?ha ?hb; (case ha => with_reducible assumption); (case hb => k_extra "LIT0")) | (with_reducible refine' Nat.le_of_lt (Nat.lt_of_lt_of_le ?ha ?hb); (case ha => with_reducible assumption); (case hb => k_extra "LIT0")) | (with_reducible refine' Nat.lt_of_le_of_lt (Nat.le_of_eq ?ha) ?hb; (case ha => with_reducible assumption); (case hb => k_extra "LIT0")) | (with_reducible refine' Nat.le_trans (Nat.le_of_eq ?ha) ?hb; (case ha => with_reducible assumption); (case hb => k_extra "LIT0"))))
  (k_with "LIT2" => (first | with_reducible assumption | (with_reducible refine' Nat.lt_of_lt_of_le ?ha ?hb; (case ha => with_reducible assumption); (case hb => k_extra "LIT1")) | (with_reducible refine' Nat.lt_of_le_of_lt ?ha ?hb; (case ha => with_reducible assumption); (case hb => k_extra "LIT1")) | (with_reducible refine' Nat.le_trans ?ha ?hb; (case ha => with_reducible assumption); (case hb => k_extra "LIT1")) | (with_reducible refine' Nat.le_of_lt (Nat.lt_of_lt_of_le ?ha ?hb); (case ha => with_reducible assumption); (case hb => k_extra "LIT1")) | (with_reducible refine' Nat.lt_of_le_of_lt (Nat.le_of_eq ?ha) ?hb; (case ha => with_reducible assumption); (case hb => k_extra "LIT1")) | (with_reducible refine' Nat.le_trans (Nat.le_of_eq ?ha) ?hb; (case ha => with_reducible assumption); (case hb => k_extra "LIT1"))))
  (k_with "OM" => (first | with_reducible assumption | with_reducible exact Int.natCast_nonneg _ | with_reducible exact Int.ofNat_lt.mpr (by with_reducible assumption) | with_reducible exact i63 (by k_extra "LIT2") | k_extra "LIT2" | omega))
  (k_with "LTC" => (first | with_reducible assumption | (refine' Nat.lt_trans ?ha ?hb; (case ha => with_reducible assumption); (case hb => k_extra "LTC"))))
  (k_with "NEC" => ((refine neN ?_; (try dsimp only); first | (refine' Nat.ne_of_lt ?hc; (case hc => k_extra "LTC")) | (refine' Nat.ne_of_gt ?hc; (case hc => k_extra "LTC")) | omega)))
  (k_with "ROOMN" => (first | (refine' roomN ?ha (Nat.add_assoc _ _ _) ?hb; (case ha => with_reducible assumption); (case hb => exact rfl)) | (refine' roomN ?ha rfl ?hb; (case ha => with_reducible assumption); (case hb => exact rfl)) | (refine' roomN ?ha ((Nat.add_assoc _ _ _).trans (Nat.add_assoc _ _ _)) ?hb; (case ha => with_reducible assumption); (case hb => exact rfl)) | exact Nat.lt_of_le_of_lt (Nat.le_add_right _ _) (by with_reducible assumption)))
  (k_with "MKUNITS" => (first | k_extra "ROOMN" | ktr_units))
  (k_with "MKNE" => (first | k_extra "NEC" | ((try dsimp only); assumption) | ((try dsimp only); exact Ne.symm (by assumption)) | ((try dsimp only); exact News.ne (by with_reducible assumption) (by k_mem) (by k_mem) (ne_typ rfl))))
  (k_with "MKALL" => (first | assumption | exact List.forall_mem_nil _ | (refine' List.forall_mem_cons.mpr ⟨?a, ?b⟩; (case a => k_ne); (case b => k_all))))
  (k_with "GET" => (first | exact Fr.keep (by with_reducible assumption) _ _ (by with_reducible assumption) | exact News.get (by with_reducible assumption) (by k_mem)))
  (k_with "MKINST" => (exact instG (by k_extra "GET") (by k_extra "GET")))
  (k_with "MISLIST" => (exact isListG (by k_extra "GET")))
  (k_with "ENTER" => (((case ks => assumption); (case k1 => assumption); (case k2 => assumption); (case k3 => assumption); (case k4 => assumption); (case kr => assumption); (case k5 => assumption); (case kK => assumption); (case k8 => first | k_extra "ROOMN" | ktr_room); (case k6 => k_is); (case k7 => k_is); (case k9 => exact BindsTo.of_eq rfl); (case kB => exact locs rfl); (case c2 => exact rfl); (case c3 => exact rfl); (case c4 => exact rfl); (case c5 => decide))))
  (k_with "subscriptTail" => ((k_here; (with_reducible show wpAny _ _ (subscriptTail _ _ (Value.ref _) (Value.int _ _)) _ _ _); k_dflt (refine' item_list ?k1 ?k2 ?k3 ?k4 ?_; (case k1 => is_list); (case k4 => assumption); (case k2 => k_extra "OM"); (case k3 => k_extra "OM")))))
  (k_with "subscriptTail" => ((k_here; (with_reducible show wpAny _ _ (subscriptTail _ _ (Value.ref _) (Value.int 1 _)) _ _ _); k_dflt (refine' item_tup1 ?k1 ?_; (case k1 => k_extra "GET")))))
  (k_with "subscriptTail" => ((k_here; (with_reducible show wpAny _ _ (subscriptTail _ _ (Value.ref _) (Value.int 0 _)) _ _ _); k_dflt (refine' item_tup0 ?k1 ?_; (case k1 => k_extra "GET")))))
  (k_with "compareOp Eq ref ref" => ((k_here; (with_reducible show wpAny _ _ (compareOp CmpOp.Eq (Value.ref _) (Value.ref _)) _ _ _); k_dflt (refine' eq_tup ?k1 ?k2 ?k3 ?_; (case k1 => k_extra "GET"); (case k2 => k_extra "GET"); (case k3 => k_units)))))
  (k_with "ite" => (first | (refine ite_pos ?c ?_; (case c => ((try simp only [decide_eq_true_eq, beq_iff_eq, Bool.not_eq_true', decide_eq_false_iff_not, ne_eq]); first | assumption | omega))) | (refine ite_neg ?c ?_; (case c => ((try simp only [decide_eq_true_eq, beq_iff_eq, Bool.not_eq_true', decide_eq_false_iff_not, ne_eq]); first | assumption | omega)))))
  (k_with "execs cons" => (((with_reducible refine wpAny_execs_cons ?_); (try dsimp only); k_fold)))
  (k_with "STEPS" => (((try k_fold); (repeat' (first | walk1 | (k_unfold; (try dsimp only)) | (dsimp only; walk1))); (all_goals (try dsimp only)))))
  (k_with "LV" => (((try dsimp only [WhileStep2]); refine' LeaveM.mk ?k1 ?k2 ?_; (case k1 => with_reducible assumption); (case k2 => with_reducible assumption); intro _ nK; (try dsimp only [List.nil_append, List.cons_append] at nK); revert nK; intro _; (try dsimp only))))
  (k_with "ROOM" => (first | k_extra "ROOMN" | (simp only [recursionLimit, cLine] at *; omega)))
  (k_with "CTX" => (((case B => with_reducible assumption); (case F => with_reducible assumption); (case X => with_reducible assumption); (case T => with_reducible assumption); (case hk => first | exact rfl | assumption); (case hd => k_extra "ROOM"); (case hu => k_extra "ROOM"); (case N => with_reducible assumption))))
  (k_with "KEEP" => (first | with_reducible assumption | exact DerV.keep (by with_reducible assumption) (Fr.keep (by with_reducible assumption)) | exact Sto.keep (by with_reducible assumption) (Fr.keep (by with_reducible assumption)) | exact Bok.keep (by with_reducible assumption) (Fr.keep (by with_reducible assumption)) | exact TupG.keep (by with_reducible assumption) (Fr.keep (by with_reducible assumption)) | exact ⟨_, by k_extra "GET"⟩ | exact ⟨_, _, _, _, rfl, by k_extra "GET"⟩ | assumption))
  (k_with "AFTER" => (((try dsimp only); (try k_sweep))))
  (k_with "call builtin:len" => ((k_here; (with_reducible show wpAny _ _ (call (Value.builtin "len") [Value.ref _]) _ _ _); k_dflt (refine' len_any ?k1 ?k2 ?_; (case k1 => is_list); (case k2 => first | with_reducible assumption | ((try simp only [List.length_append, List.length_cons, List.length_nil, List.length_set]); omega))))))
  (k_with "call builtin:list.append" => ((k_here; (with_reducible show wpAny _ _ (call (Value.builtin _) [Value.ref _, _]) _ _ _); k_dflt (refine' append_any ?k1 ?k2 ?k3 ?_ ?z; (case k1 => k_asm); (case k2 => k_asm); (case k3 => k_upd); (case z => first | with_reducible assumption | ((try simp only [List.length_append, List.length_cons, List.length_nil, List.length_set]); omega)); k_whole); intro _ _ _; (try k_sweep))))
  (k_with "setItem ref int" => ((k_here; (with_reducible show wpAny _ _ (setItem (Value.ref _) (Value.int _ _) _) _ _ _); k_dflt (refine' set_any ?k1 ?k2 ?k3 ?k4 ?k5 ?k6 ?_; (case k1 => k_asm); (case k2 => k_asm); (case k3 => k_upd); (case k4 => k_extra "OM"); (case k5 => first | with_reducible assumption | ((try simp only [List.length_append, List.length_cons, List.length_nil, List.length_set]); omega)); (case k6 => k_extra "OM"); k_whole); intro _ _ _; (try k_sweep))))
  (k_with "CTX2" => (((case B => with_reducible assumption); (case F => with_reducible assumption); (case X => with_reducible assumption); (case T => with_reducible assumption); (case hk => first | exact rfl | assumption); (case hd => k_extra "ROOM"); (case hu => k_extra "ROOM"))))
  (k_with "SEP" => (((repeat' (first | assumption | exact sep_nil | refine sep_app ?_ ?_ | refine sep_cons ?_ ?_)); (all_goals ((repeat' (first | exact nmNil | refine nmCons ?_ ?_)); all_goals first | assumption | k_extra "NEC" | exact Ne.symm (by assumption) | exact News.ne (by with_reducible assumption) (by k_mem) (by k_mem) (ne_typ rfl))))))
  (k_with "SPLIT1" => (first | (refine' News.at0 ?n; (case n => with_reducible assumption)) | (refine' News.at1 ?n; (case n => with_reducible assumption)) | (refine' News.at2 ?n; (case n => with_reducible assumption)) | (refine' News.at3 ?n; (case n => with_reducible assumption)) | (refine' News.at4 ?n; (case n => with_reducible assumption)) | (refine' News.at5 ?n; (case n => with_reducible assumption)) | (refine' News.at6 ?n; (case n => with_reducible assumption))))
  (k_with "pyIter ref" => (refine stopHere ?_))
  (k_with "SEPI" => (((repeat' (first | assumption | exact sep_nil | refine sep_app ?_ ?_ | refine sep_cons ?_ ?_)); (all_goals ((try dsimp only); first | assumption | k_extra "NEC" | exact Ne.symm (by assumption))))))
  (k_with "SUBT" => (first | exact sub_refl | (refine sub_cons ?_; k_extra "SUBT") | (refine sub_right ?_; k_extra "SUBT") | (refine sub_left ?_; k_extra "SUBT")))
  (k_with "MEM" => (first | exact memH | (with_reducible refine List.mem_append_right _ ?_; k_extra "MEM") | (with_reducible refine List.mem_append_left _ ?_; k_extra "MEM") | (with_reducible refine memT ?_; k_extra "MEM")))
  (k_with "SUBT2" => (first | exact sub_refl | (with_reducible refine sub_right ?_; k_extra "SUBT2") | (with_reducible refine sub_left ?_; k_extra "SUBT2") | (with_reducible refine sub_cons ?_; k_extra "SUBT2")))
  (k_with "SUBM" => (((repeat' (first | exact sep_nil | refine sep_app ?_ ?_ | refine sep_cons ?_ ?_)); (all_goals first | k_extra "MEM" | k_extra "SUBT2"))))
  (k_with "SUB" => (((repeat' (first | exact sep_nil | refine sep_app ?_ ?_ | refine sep_cons ?_ ?_)); (all_goals first | k_mem | k_extra "MEM" | k_extra "SUBT2" | (simp only [List.mem_append, List.mem_cons, List.not_mem_nil, true_or, or_true, or_false, false_or]; done) | (intro _ hx9; simp only [hx9, List.mem_append, List.mem_cons, List.not_mem_nil, true_or, or_true, or_false, false_or]; done) | k_extra "SUBT"))))
  (k_with "exec For Name Name cons nil" => ((k_here; (with_unfolding_all refine' For_invVF ?kF ?k1 ?k2 ?_; (case kF => assumption); (case k1 => exact rfl); (case k2 => exact rfl); k_whole))))
  (k_with "exec For Name Call cons nil" => ((k_here; (with_unfolding_all refine' For_invVF ?kF ?k1 ?k2 ?_; (case kF => assumption); (case k1 => exact rfl); (case k2 => exact rfl); k_whole))))
  (k_with "exec For Name Subscript cons nil" => ((k_here; (with_unfolding_all refine' For_invVF ?kF ?k1 ?k2 ?_; (case kF => assumption); (case k1 => exact rfl); (case k2 => exact rfl); k_whole))))
  (k_with "exec For Name Attribute cons nil" => ((k_here; (with_unfolding_all refine' For_invVF ?kF ?k1 ?k2 ?_; (case kF => assumption); (case k1 => exact rfl); (case k2 => exact rfl); k_whole))))
  (k_with "KEEP" => (first | with_reducible assumption | exact DerV.keep (by with_reducible assumption) (Fr.keep (by with_reducible assumption)) | exact Sto.keep (by with_reducible assumption) (Fr.keep (by with_reducible assumption)) | exact Bok.keep (by with_reducible assumption) (Fr.keep (by with_reducible assumption)) | exact TupG.keep (by with_reducible assumption) (Fr.keep (by with_reducible assumption)) | exact ⟨_, by k_extra "GET"⟩ | exact ⟨_, _, _, _, rfl, by k_extra "GET"⟩ | assumption))
  trivial
theorem TupL.mono {tl tl' : List (Addr × Obj)} {v : Value} {c : Int × Int} (h : TupL tl v c) (s : ∀ x ∈ tl, x ∈ tl') : TupL tl' v c := by
  obtain ⟨a, t1, t2, e, m⟩ := h
  exact ⟨a, t1, t2, e, s _ m⟩
theorem TupL.at {h₀ h : Heap} {L : Addr} {tl : List (Addr × Obj)} {v : Value} {c : Int × Int} (t : TupL tl v c) (N : News h₀ L h tl) : TupG h v c := by
  obtain ⟨a, t1, t2, e, m⟩ := t
  exact ⟨a, t1, t2, 0, e, (N _ m).1⟩
inductive CellsP (Tp : Value → Int × Int → Prop) : List Value → List (Int × Int) → Prop where
  | nil : CellsP Tp [] []
  | cons {v c vs cs} : Tp v c → CellsP Tp vs cs → CellsP Tp (v :: vs) (c :: cs)
section
variable {Tp Tq : Value → Int × Int → Prop}
theorem CellsP.mono (h : ∀ v c, Tp v c → Tq v c) : ∀ {vs cs}, CellsP Tp vs cs → CellsP Tq vs cs
  | _, _, .nil => .nil
  | _, _, .cons t r => .cons (h _ _ t) (r.mono h)
theorem CellsP.length : ∀ {vs cs}, CellsP Tp vs cs → vs.length = cs.length
  | _, _, .nil => rfl
  | _, _, .cons _ r => congrArg (· + 1) r.length
theorem CellsP.get : ∀ {vs cs}, CellsP Tp vs cs → ∀ {i : Nat} {c}, cs[i]? = some c → ∃ v, vs[i]? = some v ∧ Tp v c
  | _, _, .cons t r, 0, _, e => by cases e; exact ⟨_, rfl, t⟩
  | _, _, .cons t r, i + 1, c, e => by
    obtain ⟨v, a, b⟩ := r.get (i := i) (c := c) (by simpa using e)
    exact ⟨v, by simpa using a, b⟩
theorem CellsP.getV : ∀ {vs cs}, CellsP Tp vs cs → ∀ {i : Nat} {v}, vs[i]? = some v → ∃ c, cs[i]? = some c ∧ Tp v c
  | _, _, .cons t r, 0, _, e => by cases e; exact ⟨_, rfl, t⟩
  | _, _, .cons t r, i + 1, v, e => by
    obtain ⟨c, a, b⟩ := r.getV (i := i) (v := v) (by simpa using e)
    exact ⟨c, by simpa using a, b⟩
theorem CellsP.app : ∀ {vs cs us ds}, CellsP Tp vs cs → CellsP Tp us ds → CellsP Tp (vs ++ us) (cs ++ ds)
  | _, _, _, _, .nil, h => h
  | _, _, _, _, .cons t r, h => .cons t (r.app h)
theorem CellsP.set {v c} (t : Tp v c) : ∀ {vs cs}, CellsP Tp vs cs → ∀ i : Nat, CellsP Tp (vs.set i v) (cs.set i c)
  | _, _, .nil, _ => .nil
  | _, _, .cons _ r, 0 => .cons t r
  | _, _, .cons t' r, i + 1 => .cons t' (r.set t i)
theorem derV_of {h : Heap} (hTp : ∀ v c, Tp v c → TupG h v c) {hs ss : List Value} {H S : List (Int × Int)} (cH : CellsP Tp hs H) (cS : CellsP Tp ss S) (bH : hs.length < 99000) (bS : ss.length < 99000) {n : Nat} {c d : Int × Int} (hd : Der H S n c d) :
    ∀ {v}, Tp v c → ∃ r, Tp r d ∧ DerV h hs ss n v r d := by
  have bd : ∀ {l : List (Int × Int)} {c c' : Int × Int}, 0 ≤ c.2 → l.length < 99000 → l[c.2.toNat]? = some c' → c.2 < 1000000 := fun h0 hl e => by
    have := (List.getElem?_eq_some_iff.mp e).1
    omega
  have lH := cH.length
  have lS := cS.length
  induction hd with
  | stop a b => intro v t; exact ⟨_, t, .stop (hTp _ _ t) a b⟩
  | self0 a b e =>
      intro v t
      obtain ⟨f, e1, t1⟩ := cH.get e
      exact ⟨_, t, .self0 (hTp _ _ t) a b (bd b (by omega) e) e1 (hTp _ _ t1)⟩
  | self1 a b e =>
      intro v t
      obtain ⟨f, e1, t1⟩ := cS.get e
      exact ⟨_, t, .self1 (hTp _ _ t) a b (bd b (by omega) e) e1 (hTp _ _ t1)⟩
  | step0 a b e n _ ih =>
      intro v t
      refine Classical.byContradiction fun nGo => ?_
      obtain ⟨f, e1, t1⟩ := cH.get e
      obtain ⟨r, tr, z⟩ := ih t1
      refine nGo ?_; clear nGo
      exact ⟨r, tr, .step0 (hTp _ _ t) a b (bd b (by omega) e) e1 (hTp _ _ t1) n z⟩
  | step1 a b e n _ ih =>
      intro v t
      refine Classical.byContradiction fun nGo => ?_
      obtain ⟨f, e1, t1⟩ := cS.get e
      obtain ⟨r, tr, z⟩ := ih t1
      refine nGo ?_; clear nGo
      exact ⟨r, tr, .step1 (hTp _ _ t) a b (bd b (by omega) e) e1 (hTp _ _ t1) n z⟩
end
/-- what becomes of the two areas when a row of cells is moved to the heap -/
inductive Globs : List (Int × Int) → List (Int × Int) → List (Int × Int) → List (Int × Int) → List (Int × Int) → List (Int × Int) → Prop where
  | nil {H S} : Globs H S [] H S []
  | keep {H S n c d cs H' S' ds} : Der H S n c d → d.1 ≠ 1 → Globs H S cs H' S' ds → Globs H S (c :: cs) H' S' (d :: ds)
  | move {H S n c d cs H' S' ds} : Der H S n c d → d.1 = 1 → 0 ≤ d.2 → d.2 < S.length → Globs (H ++ [(0, (H.length : Int))]) (S.set d.2.toNat (0, (H.length : Int))) cs H' S' ds → Globs H S (c :: cs) H' S' ((0, (H.length : Int)) :: ds)
theorem Globs.len {H S cs H' S' ds : List (Int × Int)} (g : Globs H S cs H' S' ds) : ds.length = cs.length ∧ H.length ≤ H'.length ∧ H'.length ≤ H.length + cs.length ∧ S'.length = S.length := by
  induction g with
  | nil => exact ⟨rfl, Nat.le_refl _, Nat.le_refl _, rfl⟩
  | keep _ _ _ ih => simp only [List.length_cons]; omega
  | move _ _ _ _ _ ih => simp only [List.length_cons, List.length_append, List.length_nil, List.length_set] at ih ⊢; omega
end Part7
section Part8
noncomputable def Tq (Tp : Value → Int × Int → Prop) (nt : List (Addr × Obj)) (v : Value) (c : Int × Int) : Prop := Tp v c ∨ TupL nt v c
theorem ln10 : True := by
  (k_with "call ref" => ((k_here; (with_reducible show wpAny _ _ (call (Value.ref 258) _) _ _ _); refine stopHere ?_)))
  (k_with "call ref" => ((k_here; (with_reducible show wpAny _ _ (call (Value.ref 321) _) _ _ _); refine stopHere ?_)))
  (k_with "call ref" => ((k_here; (with_reducible show wpAny _ _ (call (Value.ref 307) _) _ _ _); refine stopHere ?_)))
  trivial
theorem Tq.mono {Tp : Value → Int × Int → Prop} {nt nt' : List (Addr × Obj)} (s : ∀ x ∈ nt, x ∈ nt') (v : Value) (c : Int × Int) (h : Tq Tp nt v c) : Tq Tp nt' v c := h.elim .inl fun t => .inr (t.mono s)
theorem Tq.at {Tp : Value → Int × Int → Prop} {g h : Heap} {L : Addr} {m : Str → Option Value} {l nt : List (Addr × Obj)} (hTp : ∀ v c, Tp v c → TupG g v c) (F : Fr g L h m) (N : News g L h l) (s : ∀ x ∈ nt, x ∈ l) (v : Value) (c : Int × Int) (t : Tq Tp nt v c) : TupG h v c :=
  t.elim (fun t => (hTp _ _ t).keep F.keep) fun t => t.at (News.sub N s)
/-- what new_block finds of a functor: its arity, and the tag of the block -/
noncomputable def Blk (h : Heap) (fl : List Value) (f : Int) (k : Nat) : Prop := (f = 0 ∧ k = 2) ∨ (0 < f ∧ f < 1000000 ∧ k ≤ 50 ∧ ∃ av at_, fl[f.toNat]? = some av ∧ TupG h av (at_, (k : Int)))
noncomputable def tagOf (f : Int) : Int := if f = 0 then 3 else 2
noncomputable def headOf (f : Int) : List (Int × Int) := if f = 0 then [] else [(6, f)]
section
variable {prog : Program} {w : World} {p : Program} {loose : List Str} {mean : ExcName → Option Value} {mg mb : Str → Option Value} {dp un : Nat} {gd : Option (List Code)} {cn : Str} {cs : Scope} {a : Addr} {ccd : Value} {cl : List (Str × Addr)} {outer : List Env} {A₀ : Around} {base h₀ : Heap} {L : Addr} {m : Str → Option Value} {s : Shared} {Q E : Value → Shared → Prop}
  (B : Below A₀ base outer h₀) (F : Fr h₀ L s.heap m) (X : (Mine.hd.heap_1 w.params).In h₀) (T : Top p loose mean mg mb h₀) (hk : cs.kind = .function) (hd : dp + 10 < recursionLimit) (hu : un + 200 < cLine)
include B F X T hk hd hu
theorem block_spec {pre post : List (Addr × Obj)} {st bk H S TX AN FL FN : Addr} {hs fl : List Value} {n1 : Nat} {f : Int} {tf : Tok} {k : Nat}
    (N : News h₀ L s.heap (pre ++ ([(H, listOf hs.toArray n1)] ++ post))) (sep : ∀ q ∈ pre ++ post, q.1 ∉ [(H, listOf hs.toArray n1)].map (·.1)) (hS : Sto w.params s.heap st bk H S) (hl : hs.length < 90000)
    (hB : Bok w.params s.heap bk TX AN FL FN) (hF : LstG s.heap FL fl) (hFH : ¬ FL = H) (hb : Blk s.heap fl f k)
    (ret : ∀ h' tk' a' t1 t2 xs n nt ys, xs.length = k → CellsP (TupL nt) ys (headOf f) → (∀ q ∈ nt, q.2.cls = .type "tuple") → Fr h₀ L h' m →
      News h₀ L h' (pre ++ (((a', tupO (tagOf f, (hs.length : Int)) t1 t2 0) :: (nt ++ [(H, listOf (hs ++ (ys ++ xs)).toArray n)])) ++ post)) → Q (.ref a') { s with heap := h', toks := tk' }) :
    wpAny (model prog w) (ktrTop dp un gd cn cs L a ccd cl outer) (call (.ref 321) [.ref st, .int f tf]) Q E s := by
  obtain ⟨rfl, rfl⟩ | ⟨f0, f1, hk1, av, at_, hx, hav⟩ := hb
  · refine block0_spec B F X T hk (by k_extra "ROOM") (by k_extra "ROOM") N sep hS hl ?_
    intro h' tk' a' t1 t2 xs n hx F' N'
    exact ret h' tk' a' t1 t2 xs n [] [] hx .nil sep_nil F' N'
  · refine block1_spec B F X T hk (by k_extra "ROOM") (by k_extra "ROOM") N sep hS hl hB hF hFH f0 f1 hx hav hk1 ?_
    intro h' tk' a' t1 t2 b' t3 t4 xs n hx F' N'
    have hf : ¬ f = 0 := by omega
    refine ret h' tk' a' t1 t2 xs n [(b', tupO (6, f) t3 t4 0)] [.ref b'] hx ?_ (sep_cons rfl sep_nil) F' ?_
    · unfold headOf
      rw [if_neg hf]
      exact .cons ⟨b', t3, t4, rfl, .head _⟩ .nil
    · unfold tagOf
      rw [if_neg hf]
      exact N'
end
theorem drop_is {α : Type} {l : List α} {i : Nat} {c : α} (h : l[i]? = some c) : l.drop i = c :: l.drop (i + 1) := by
  obtain ⟨hi, e⟩ := List.getElem?_eq_some_iff.mp h
  rw [List.drop_eq_getElem_cons hi, e]
theorem drop_more {α : Type} {l r : List α} {i : Nat} {c : α} (h : l.drop i = c :: r) : l.drop (i + 1) = r ∧ l.take (i + 1) = l.take i ++ [c] := by
  have hc : l[i]? = some c := by
    have := congrArg (fun x => x[0]?) h
    simpa using this
  rw [drop_is hc] at h
  injection h with _ h
  exact ⟨h, by rw [List.take_add_one, hc]; rfl⟩
inductive J0 (st H S VL : Addr) (f : Int) (tf : Tok) (Tp : Value → Int × Int → Prop) (rs ds Ha Sa H' S' : List (Int × Int)) (i : Nat) (m : Str → Option Value) (news : List (Addr × Obj)) : Prop where
  | mk (nt : List (Addr × Obj)) (hs ss : List Value) (n1 n2 : Nat) (vals : List Value) (nv : Nat) (Hi Si : List (Int × Int)) (ag : Agree m [(Str.ofString "self", .ref st), (Str.ofString "f", .int f tf), (Str.ofString "values", .ref VL)]) (e : news = (VL, listOf vals.toArray nv) :: (H, listOf hs.toArray n1) :: (S, listOf ss.toArray n2) :: nt)
    (cH : CellsP (Tq Tp nt) hs Hi) (cS : CellsP (Tq Tp nt) ss Si) (cV : CellsP (Tq Tp nt) vals (ds.take i)) (hG : Globs Hi Si (rs.drop i) H' S' (ds.drop i)) (bH : Hi.length ≤ Ha.length + i) (bS : Si.length = Sa.length) (ht : ∀ q ∈ nt, q.2.cls = .type "tuple") : J0 st H S VL f tf Tp rs ds Ha Sa H' S' i m news
theorem Blk.mono {h g : Heap} {fl : List Value} {f : Int} {k : Nat} (x : Blk h fl f k) (t : ∀ v c, TupG h v c → TupG g v c) : Blk g fl f k := by
  obtain x | ⟨a, b, c, av, at_, d, e⟩ := x
  · exact .inl x
  · exact .inr ⟨a, b, c, av, at_, d, t _ _ e⟩
theorem base_tag {f : Int} {n : Nat} : baseOf (tagOf f, (n : Int)) = ((n + (headOf f).length : Nat) : Int) := by
  unfold baseOf tagOf headOf
  by_cases h : f = 0 <;> simp [h]
theorem set_at {A : List Value} {z v : Value} {t : List Value} {k : Int} (h : k = (A.length : Int)) : (A ++ z :: t).set k.toNat v = A ++ v :: t := by
  subst h
  simp [List.set_append]
inductive J1 (st H S VL a' : Addr) (nv n2 p0 : Nat) (vals hs ys ss : List Value) (nt : List (Addr × Obj)) (i : Nat) (m : Str → Option Value) (news : List (Addr × Obj)) : Prop where
  | mk (zs : List Value) (nH : Nat) (tp : Tok) (ag : Agree m [(Str.ofString "self", .ref st), (Str.ofString "made", .ref a'), (Str.ofString "place", .int ((p0 + i : Nat) : Int) tp)]) (e : news = (VL, listOf vals.toArray nv) :: (H, listOf (hs ++ (ys ++ (vals.take i ++ zs))).toArray nH) :: (S, listOf ss.toArray n2) :: nt) (hz : zs.length + i = vals.length) : J1 st H S VL a' nv n2 p0 vals hs ys ss nt i m news
section
variable {prog : Program} {w : World} {p : Program} {loose : List Str} {mean : ExcName → Option Value} {mg mb : Str → Option Value} {dp un : Nat} {gd : Option (List Code)} {cn : Str} {cs : Scope} {a : Addr} {ccd : Value} {cl : List (Str × Addr)} {outer : List Env} {A₀ : Around} {base h₀ : Heap} {L : Addr} {m : Str → Option Value} {s : Shared} {Q E : Value → Shared → Prop}
  (B : Below A₀ base outer h₀) (F : Fr h₀ L s.heap m) (X : (Mine.hd.heap_1 w.params).In h₀) (T : Top p loose mean mg mb h₀) (hk : cs.kind = .function) (hd : dp + 20 < recursionLimit) (hu : un + 400 < cLine)
include B F X T hk hd hu
theorem struct_walk {pre post : List (Addr × Obj)} {st bk H S TX AN FL FN CL : Addr} {hs ss fl cv : List Value} {n1 n2 n3 : Nat} {f : Int} {tf : Tok} {Tp : Value → Int × Int → Prop} {Ha Sa rs H' S' ds : List (Int × Int)}
    (N : News h₀ L s.heap (pre ++ ([(H, listOf hs.toArray n1), (S, listOf ss.toArray n2)] ++ post))) (sep : ∀ q ∈ pre ++ post, q.1 ∉ [(H, listOf hs.toArray n1), (S, listOf ss.toArray n2)].map (·.1)) (hHS : ¬ H = S)
    (hS : Sto w.params s.heap st bk H S) (hB : Bok w.params s.heap bk TX AN FL FN) (hF : LstG s.heap FL fl) (hFH : ¬ FL = H) (hFS : ¬ FL = S) (hC : s.heap.get? CL = some (listOf cv.toArray n3)) (hCH : ¬ CL = H) (hCS : ¬ CL = S)
    (hTp : ∀ v c, Tp v c → TupG s.heap v c) (cH : CellsP Tp hs Ha) (cS : CellsP Tp ss Sa) (cC : CellsP Tp cv rs) (hG : Globs Ha Sa rs H' S' ds) (hK : Blk s.heap fl f rs.length) (hrs : 0 < rs.length) (hrs2 : rs.length ≤ 40) (bH : Ha.length < 80000) (bS : Sa.length < 80000)
    (ret : ∀ h' tk' r nt hs' ss' n1' n2', CellsP (Tq Tp nt) hs' (H' ++ (headOf f ++ ds)) → CellsP (Tq Tp nt) ss' S' → TupL nt r (tagOf f, (H'.length : Int)) → (∀ q ∈ nt, q.2.cls = .type "tuple") → Fr h₀ L h' m →
      News h₀ L h' (pre ++ ([(H, listOf hs'.toArray n1'), (S, listOf ss'.toArray n2')] ++ (nt ++ post))) → Q r { s with heap := h', toks := tk' }) :
    wpAny (model prog w) (ktrTop dp un gd cn cs L a ccd cl outer) (call (.ref 342) [.ref st, .int f tf, .ref CL]) Q E s := by
  have N0 := News.loc N
  have hG0 := hG
  have NR := News.others N
  have lC := cC.length
  have lH := cH.length
  have lS := cS.length
  k_dflt (refine' enterM (binds := [(Str.ofString "self", .ref st), (Str.ofString "f", .int f tf), (Str.ofString "cells", .ref CL)]) ?k1 ?k2 ?k3 ?k4 ?kr ?ks ?k5 ?kK ?k8 ?k6 ?k7 ?k9 ?kB ?_ ?c2 ?c3 ?c4 ?c5; k_extra "ENTER")
  intro g L' h' tk F' N' B' X' T' hg
  have hb : ButLists s.heap g := ButLists.of N0 (by simp) hg
  have hSg := hS.but hb
  have hBg := hB.but hb
  replace hC := hg _ _ hC (by simp [hCH, hCS])
  refine Classical.byContradiction fun nGo => ?_
  obtain ⟨n4, hF⟩ := hF
  replace hF := hg _ _ hF (by simp [hFH, hFS])
  obtain ⟨dst, Tr, kk, u, hst, hdst⟩ := id hSg
  refine nGo ?_; clear nGo
  have hTp : ∀ v c, Tp v c → TupG g v c := fun v c t => (hTp v c t).but hb
  (try dsimp only)
  k_extra "STEPS"
  rename_i VL _ lt1 _ F9 N9
  refine for_list (L := L') (J0 st H S VL f tf Tp rs ds Ha Sa H' S') rfl rfl (.inl hC) (by assumption) (by assumption) ⟨[], hs, ss, n1, n2, [], 0, Ha, Sa, .cons rfl (.cons rfl (.cons rfl .nil)), rfl, cH.mono fun _ _ => .inl, cS.mono fun _ _ => .inl, .nil, hG, Nat.le_refl _, rfl, sep_nil⟩ ?_ ?_
  · intro i v m₁ news₁ h₁ tk₁ I oI hv hR9 hne cI F₁ N₁; obtain ⟨nt, hs, ss, n1, n2, vals, nv, Hi, Si, ag, rfl, cH, cS, cV, hG, bH', bS', ht⟩ := hR9
    rw [ag.form] at F₁
    obtain ⟨c, hc, tc⟩ := cC.getV hv
    have hi : i < rs.length := (List.getElem?_eq_some_iff.mp hc).1
    have lH := cH.length
    have lS := cS.length
    have lV := cV.length
    have lT := List.length_take_le i ds
    have hVI : ¬ VL = I := hne _ (.head _)
    have hHI : ¬ H = I := hne _ (.tail _ (.head _))
    have hSI : ¬ S = I := hne _ (.tail _ (.tail _ (.head _)))
    have hnI : ∀ q ∈ nt, ¬ q.1 = I := fun q hq => hne _ (.tail _ (.tail _ (.tail _ hq)))
    have hnV : ∀ q ∈ nt, q.1 ≠ VL := News.neAll N₁ (by k_extra "SUBT") ht (by k_mem) list_ne_tuple
    have hnH : ∀ q ∈ nt, q.1 ≠ H := News.neAll N₁ (by k_extra "SUBT") ht (by k_mem) list_ne_tuple
    have hnS : ∀ q ∈ nt, q.1 ≠ S := News.neAll N₁ (by k_extra "SUBT") ht (by k_mem) list_ne_tuple
    have hnHS : ∀ q ∈ nt, q.1 ∉ [(H, listOf hs.toArray n1), (S, listOf ss.toArray n2)].map (·.1) := fun q hq => by simp [hnH q hq, hnS q hq]
    clear hne ag
    rw [drop_is hc] at hG
    generalize hD : ds.drop i = D at hG
    k_sweep
    (try dsimp only)
    k_extra "STEPS"
    have hTq := Tq.at hTp F₁ N₁ (nt := nt) (by k_extra "SUBT")
    cases hG with
    | keep hde hn hG' =>
      refine Classical.byContradiction fun nGo => ?_
      obtain ⟨e1, e2⟩ := drop_more hD
      obtain ⟨r, tr, dv⟩ := derV_of hTq cH cS (by k_extra "OM") (by k_extra "OM") hde (.inl tc)
      refine nGo ?_; clear nGo
      have hr := hTq _ _ tr
      show wpAny _ _ _ _ _ _
      k_dflt (refine' glob0_spec ?B ?F ?X ?T ?hk ?hd ?hu ?N ?hS ?hH ?hT ?hv ?hr ?e1 ?_; k_extra "CTX"; (case hv => exact dv); (case hr => exact hr); (case e1 => exact hn); (case hS => k_extra "KEEP"); (case hH => k_extra "KEEP"); (case hT => k_extra "KEEP"))
      intro h' tk' F' N'
      k_extra "AFTER"
      k_extra "STEPS"
      rename News _ _ _ _ => N8
      exact TurnJ.next (by assumption) (News.sub N8 (by k_extra "SUBT")) (by k_extra "SEPI") ⟨nt, hs, ss, n1, n2, vals ++ [r], nv + 1, Hi, Si, .cons rfl (.cons rfl (.cons rfl .nil)), rfl, cH, cS, e2 ▸ cV.app (.cons tr .nil), e1 ▸ hG', by omega, bS', ht⟩
    | move hde hn h0 h1 hG' =>
      refine Classical.byContradiction fun nGo => ?_
      obtain ⟨e1, e2⟩ := drop_more hD
      obtain ⟨r, tr, dv⟩ := derV_of hTq cH cS (by k_extra "OM") (by k_extra "OM") hde (.inl tc)
      refine nGo ?_; clear nGo
      have hr := hTq _ _ tr
      show wpAny _ _ _ _ _ _
      k_dflt (refine' glob1_spec ?B ?F ?X ?T ?hk ?hd ?hu ?N ?sep ?hne ?hS ?hv ?hr ?e1 ?e2 ?e3 ?hl ?hl2 ?_; k_extra "CTX2"; (case hv => exact dv); (case hr => exact hr); (case e1 => exact hn); (case hS => k_extra "KEEP"); (case N => exact News.two2 N₁); (case hne => assumption); (case e2 => assumption); (case e3 => k_extra "OM"); (case hl => k_extra "OM"); (case hl2 => k_extra "OM"); (case sep => k_extra "SEP"))
      intro h' tk' a' t1' t2' F' N'
      (try dsimp only [List.nil_append, List.cons_append, List.append_nil] at N')
      have haI : ¬ a' = I := News.ne N' (by k_mem) (by k_mem) (by rw [cI]; exact ne_typ rfl)
      k_extra "AFTER"
      k_extra "STEPS"
      rename News _ _ _ _ => N8
      have sb : ∀ x ∈ nt, x ∈ (a', tupO (0, (hs.length : Int)) t1' t2' 0) :: nt := sub_cons sub_refl
      have hq : Tq Tp ((a', tupO (0, (hs.length : Int)) t1' t2' 0) :: nt) (.ref a') (0, (Hi.length : Int)) := .inr ⟨a', t1', t2', rfl, by rw [← lH]; exact .head _⟩
      exact TurnJ.next (by assumption) (News.sub N8 (by k_extra "SUB")) (by k_extra "SEPI") ⟨(a', tupO (0, (hs.length : Int)) t1' t2' 0) :: nt, hs ++ [.ref a'], ss.set _ (.ref a'), n1 + 1, n2, vals ++ [.ref a'], nv + 1, _, _, .cons rfl (.cons rfl (.cons rfl .nil)), rfl, (cH.mono (Tq.mono sb)).app (.cons hq .nil), CellsP.set hq (cS.mono (Tq.mono sb)) _, e2 ▸ (cV.mono (Tq.mono sb)).app (.cons hq .nil), e1 ▸ hG', by simp only [List.length_append, List.length_cons, List.length_nil]; omega, by rw [List.length_set]; exact bS', sep_cons rfl ht⟩
  · intro m₁ news₁ h₁ tk₁ hR4 F₁ N₁; obtain ⟨nt, hs, ss, n1, n2, vals, nv, Hi, Si, ag, rfl, cH, cS, cV, hG, bH', bS', ht⟩ := hR4
    rw [ag.form] at F₁
    obtain ⟨e1, e2, e3, e4⟩ := hG0.len
    rw [show rs.drop cv.length = [] from List.drop_eq_nil_of_le (by k_extra "OM"), show ds.drop cv.length = [] from List.drop_eq_nil_of_le (by k_extra "OM")] at hG
    rw [show ds.take cv.length = ds from List.take_of_length_le (by k_extra "OM")] at cV
    cases hG
    have lH := cH.length
    have lS := cS.length
    have lV := cV.length
    have hnV : ∀ q ∈ nt, q.1 ≠ VL := News.neAll N₁ (by k_extra "SUBT") ht (by k_mem) list_ne_tuple
    have hnH : ∀ q ∈ nt, q.1 ≠ H := News.neAll N₁ (by k_extra "SUBT") ht (by k_mem) list_ne_tuple
    have hnH1 : ∀ q ∈ nt, q.1 ∉ [(H, listOf hs.toArray n1)].map (·.1) := fun q hq => by simp [hnH q hq]
    clear ag F9 N9
    k_sweep
    (try dsimp only)
    k_extra "STEPS"
    have hKg : Blk h₁ fl f rs.length := (hK.mono fun v c t => t.but hb).mono fun v c t => t.keep F₁.keep
    show wpAny _ _ _ _ _ _
    k_dflt (refine' block_spec (k := rs.length) ?B ?F ?X ?T ?hk ?hd ?hu ?N ?sep ?hS ?hl ?hB ?hF ?hFH ?hb ?_; k_extra "CTX2"; (case hS => k_extra "KEEP"); (case hB => k_extra "KEEP"); (case hF => k_extra "KEEP"); (case hFH => exact hFH); (case hb => exact hKg); (case N => exact News.at1 N₁); (case hl => k_extra "OM"); (case sep => k_extra "SEP"))
    intro h' tk' a' t1' t2' xs nx nt2 ys hx cY ht2 F' N'
    obtain ⟨ntz, hz⟩ : ∃ ntz, ntz = (a', tupO (tagOf f, (hs.length : Int)) t1' t2' 0) :: (nt2 ++ nt) := ⟨_, rfl⟩
    have N2 : News g L' h' ((VL, listOf vals.toArray nv) :: (H, listOf (hs ++ (ys ++ xs)).toArray nx) :: (S, listOf ss.toArray n2) :: ntz) := News.sub N' (by rw [hz]; k_extra "SUB")
    have htz : ∀ q ∈ ntz, q.2.cls = .type "tuple" := by rw [hz]; exact sep_cons rfl (sep_app ht2 ht)
    have hza : (a', tupO (tagOf f, (hs.length : Int)) t1' t2' 0) ∈ ntz := by rw [hz]; exact .head _
    clear N'
    have lY := cY.length
    have hh1 : (headOf f).length ≤ 1 := by unfold headOf; split <;> simp
    k_extra "AFTER"
    k_extra "STEPS"
    show wpAny _ _ _ _ _ _
    k_dflt (refine' base_spec (c := (tagOf f, (hs.length : Int))) ?B ?F ?X ?T ?hk ?hd ?hu ?N ?hv ?h0 ?h1 ?_; k_extra "CTX"; (case hv => (rename News _ _ _ _ => N7; exact ⟨a', t1', t2', 0, rfl, News.get N7 (.tail _ (.tail _ (.tail _ hza)))⟩)); (case h0 => (dsimp only; omega)); (case h1 => (dsimp only; omega)))
    intro h' tk' t' F' N'
    rw [base_tag]
    k_extra "AFTER"
    k_extra "STEPS"
    refine for_list (L := L') (vs := vals) (k := nv) (J1 st H S VL a' nv n2 (hs.length + (headOf f).length) vals hs ys ss ntz) rfl rfl (.inr ?_) (by assumption) (by assumption) ⟨xs, nx, _, .cons rfl (.cons rfl (.cons rfl .nil)), rfl, by omega⟩ ?_ ?_
    · intro i m₁ news₁ hR3; obtain ⟨zs, nH, tp, _, rfl, _⟩ := hR3
      exact .head _
    · intro i v m₁ news₁ h₂ tk₂ I oI hv hR9 hne cI F₂ N₂; obtain ⟨zs, nH, tp, ag, rfl, hzs⟩ := hR9
      rw [ag.form] at F₂
      have hi : i < vals.length := (List.getElem?_eq_some_iff.mp hv).1
      refine Classical.byContradiction fun nGo => ?_
      obtain ⟨z, zt, rfl⟩ : ∃ z zt, zs = z :: zt := by
        match zs, hzs with
        | [], hzs => simp at hzs; omega
        | z :: zt, _ => exact ⟨z, zt, rfl⟩
      have hVI : ¬ VL = I := hne _ (.head _)
      have hHI : ¬ H = I := hne _ (.tail _ (.head _))
      have hSI : ¬ S = I := hne _ (.tail _ (.tail _ (.head _)))
      have hnI : ∀ q ∈ ntz, ¬ q.1 = I := fun q hq => hne _ (.tail _ (.tail _ (.tail _ hq)))
      have hzH : ∀ q ∈ ntz, q.1 ≠ H := News.neAll N₂ (by k_extra "SUBT") htz (by k_mem) list_ne_tuple
      obtain ⟨W, hW⟩ : ∃ W, W = hs ++ (ys ++ vals.take i) := ⟨_, rfl⟩
      refine nGo ?_; clear nGo
      have lW : W.length = hs.length + (headOf f).length + i := by rw [hW]; simp only [List.length_append, List.length_take]; omega
      rw [show hs ++ (ys ++ (vals.take i ++ z :: zt)) = W ++ z :: zt by rw [hW]; simp only [List.append_assoc]] at N₂
      have e5 : W ++ v :: zt = hs ++ (ys ++ (vals.take (i + 1) ++ zt)) := by rw [hW, List.take_add_one, hv]; simp
      clear hne ag
      k_sweep
      (try dsimp only)
      k_extra "STEPS"
      rename News _ _ _ _ => N8
      rw [set_at (by rw [lW]), e5] at N8
      exact TurnJ.next (by assumption) (News.sub N8 (by k_extra "SUB")) (by k_extra "SEPI") ⟨zt, _, _, .cons rfl (.cons rfl (.cons rfl .nil)), rfl, by simp at hzs; omega⟩
    · intro m₁ news₁ h₂ tk₂ hR4 F₂ N₂; obtain ⟨zs, nH, tp, ag, rfl, hzs⟩ := hR4
      rw [ag.form] at F₂
      obtain rfl : zs = [] := List.eq_nil_of_length_eq_zero (by k_extra "OM")
      rw [List.take_length, List.append_nil] at N₂
      k_sweep
      (try dsimp only)
      k_extra "STEPS"
      k_extra "LV"
      rename News _ _ _ _ => N8
      have hm : ∀ v c, Tq Tp nt v c → Tq Tp ntz v c := Tq.mono (by rw [hz]; k_extra "SUBT")
      have hm2 : ∀ v c, TupL nt2 v c → Tq Tp ntz v c := fun v c t => .inr (t.mono (by rw [hz]; exact sub_cons (sub_left sub_refl)))
      exact ret _ _ _ ntz _ _ _ _ ((cH.mono hm).app ((cY.mono hm2).app (cV.mono hm))) (cS.mono hm) ⟨a', t1', t2', rfl, by rw [← lH]; exact hza⟩ htz (by with_reducible assumption) (News.sub N8 (by k_extra "SUB"))
end
end Part8
section Part9
theorem ln11 : True := by
  (k_with "call ref" => ((k_here; (with_reducible show wpAny _ _ (call (Value.ref 300) _) _ _ _); refine stopHere ?_)))
  (k_with "call ref" => ((k_here; (with_reducible show wpAny _ _ (call (Value.ref 390) _) _ _ _); refine stopHere ?_)))
  (k_with "call ref" => ((k_here; (with_reducible show wpAny _ _ (call (Value.ref 230) _) _ _ _); refine stopHere ?_)))
  (k_with "call ref" => ((k_here; (with_reducible show wpAny _ _ (call (Value.ref 286) _) _ _ _); k_dflt (refine' comp_spec ?B ?F ?X ?T ?hk ?hd ?hu ?N ?hv ?_; k_extra "CTX"; (case hv => k_extra "KEEP")); intro _ _ _ _; k_extra "AFTER")))
  trivial
theorem Wid.keep {g h : Heap} {hs fl : List Value} {c : Int × Int} {k : Int} (w : Wid g hs fl c k) (t : ∀ b o, g.get? b = some o → h.get? b = some o) : Wid h hs fl c k := by
  obtain x | ⟨e1, fv, f, av, at_, p0, p1, p2, p3, p4, p5, p6, p7⟩ | x := w
  · exact .inl x
  · exact .inr (.inl ⟨e1, fv, f, av, at_, p0, p1, p2, p3.keep t, p4, p5, p6, p7.keep t⟩)
  · exact .inr (.inr x)
section
variable {prog : Program} {w : World} {p : Program} {loose : List Str} {mean : ExcName → Option Value} {mg mb : Str → Option Value} {dp un : Nat} {gd : Option (List Code)} {cn : Str} {cs : Scope} {a : Addr} {ccd : Value} {cl : List (Str × Addr)} {outer : List Env} {A₀ : Around} {base h₀ : Heap} {L : Addr} {m : Str → Option Value} {s : Shared} {Q E : Value → Shared → Prop}
  (B : Below A₀ base outer h₀) (F : Fr h₀ L s.heap m) (X : (Mine.hd.heap_1 w.params).In h₀) (T : Top p loose mean mg mb h₀) (hk : cs.kind = .function) (hd : dp + 15 < recursionLimit) (hu : un + 300 < cLine)
include B F X T hk hd hu
theorem args_spec {pre post : List (Addr × Obj)} {st bk H S TX AN FL FN Wk : Addr} {hs fl ws as : List Value} {n1 : Nat} {v : Value} {c : Int × Int} {k : Nat}
    (N : News h₀ L s.heap (pre ++ ([(Wk, listOf ws.toArray n1)] ++ post))) (sep : ∀ q ∈ pre ++ post, q.1 ∉ [(Wk, listOf ws.toArray n1)].map (·.1)) (hS : Sto w.params s.heap st bk H S) (hB : Bok w.params s.heap bk TX AN FL FN) (hH : LstG s.heap H hs) (hF : LstG s.heap FL fl) (hHW : ¬ H = Wk) (hFW : ¬ FL = Wk)
    (hv : TupG s.heap v c) (hw : Wid s.heap hs fl c (k : Int)) (h0 : 0 ≤ c.2) (h1 : c.2 < 1000000) (hk1 : k ≤ 50) (hl : ws.length ≤ 900000) (ha : ∀ j, j < k → as[j]? = hs[((baseOf c) + (j : Int)).toNat]?) (hla : as.length = k)
    (ret : ∀ h' tk' n, Fr h₀ L h' m → News h₀ L h' (pre ++ ([(Wk, listOf (ws ++ as.reverse).toArray n)] ++ post)) → Q .none { s with heap := h', toks := tk' }) :
    wpAny (model prog w) (ktrTop dp un gd cn cs L a ccd cl outer) (call (.ref 390) [.ref st, v, .ref Wk]) Q E s := by
  have N0 := News.loc N
  have NR := News.others N
  k_dflt (refine' enterM (binds := [(Str.ofString "store", .ref st), (Str.ofString "cell", v), (Str.ofString "work", .ref Wk)]) ?k1 ?k2 ?k3 ?k4 ?kr ?ks ?k5 ?kK ?k8 ?k6 ?k7 ?k9 ?kB ?_ ?c2 ?c3 ?c4 ?c5; k_extra "ENTER")
  intro g L' h' tk F' N' B' X' T' hg
  have hb : ButLists s.heap g := ButLists.of N0 (by simp) hg
  have hSg := hS.but hb
  have hBg := hB.but hb
  refine Classical.byContradiction fun nGo => ?_
  obtain ⟨n2, hH⟩ := hH
  obtain ⟨n3, hF⟩ := hF
  replace hH := hg _ _ hH (by simpa using hHW)
  replace hF := hg _ _ hF (by simpa using hFW)
  obtain ⟨dst, Tr, kk, u, hst, hdst⟩ := id hSg
  have hwg : Wid g hs fl c (k : Int) := by
    obtain x | ⟨e1, fv, f, av, at_, p0, p1, p2, p3, p4, p5, p6, p7⟩ | x := hw
    · exact .inl x
    · exact .inr (.inl ⟨e1, fv, f, av, at_, p0, p1, p2, p3.but hb, p4, p5, p6, p7.but hb⟩)
    · exact .inr (.inr x)
  have hvg := hv.but hb
  obtain ⟨ac, t1, t2, nc, rfl, hc⟩ := id hvg
  refine nGo ?_; clear nGo
  (try dsimp only)
  k_extra "STEPS"
  show wpAny _ _ _ _ _ _
  k_dflt (refine' base_spec (c := c) ?B ?F ?X ?T ?hk ?hd ?hu ?N ?hv ?h0 ?h1 ?_; k_extra "CTX"; (case hv => k_extra "KEEP"); (case h0 => assumption); (case h1 => assumption))
  intro h' tk' t' F' N'
  k_extra "AFTER"
  k_extra "STEPS"
  show wpAny _ _ _ _ _ _
  k_dflt (refine' width_spec (k := (k : Int)) ?B ?F ?X ?T ?hk ?hd ?hu ?N ?hS ?hB ?hH ?hF ?hv ?hw ?_; k_extra "CTX"; (case hS => k_extra "KEEP"); (case hB => k_extra "KEEP"); (case hH => k_extra "KEEP"); (case hF => k_extra "KEEP"); (case hv => k_extra "KEEP"); (case hw => exact Wid.keep hwg (Fr.keep (by with_reducible assumption))))
  intro h' tk' t' F' N'
  k_extra "AFTER"
  k_extra "STEPS"
  have hb0 : 0 ≤ baseOf c ∧ baseOf c ≤ c.2 + 1 := by unfold baseOf; split <;> omega
  refine for_range (L := L') (n := k) (fun i m news => ∃ n tp, Agree m [(Str.ofString "store", .ref st), (Str.ofString "place", .int (baseOf c) tp), (Str.ofString "work", .ref Wk)] ∧ news = [(Wk, listOf (ws ++ as.reverse.take i).toArray n)]) rfl rfl (by assumption) (down_small (by k_extra "OM")) down_size (by assumption) (by assumption) ⟨n1, _, .cons rfl (.cons rfl (.cons rfl .nil)), by simp⟩ ?_ ?_
  · intro i t m₁ news₁ h₁ tk₁ I oI hi hR9 hne cI F₁ N₁; obtain ⟨n, tp, ag, rfl⟩ := hR9
    rw [ag.form] at F₁
    rw [show (k : Int) - 1 + (i : Int) * (-1) = ((k - 1 - i : Nat) : Int) by omega] at F₁
    have hWI : ¬ Wk = I := hne _ (.head _)
    obtain ⟨v9, hv9⟩ : ∃ v9, as[k - 1 - i]? = some v9 := ⟨_, List.getElem?_eq_getElem (by k_extra "OM")⟩
    have hx9 := ha (k - 1 - i) (by k_extra "OM")
    rw [hv9] at hx9
    replace hx9 := hx9.symm
    have e9 : as.reverse.take (i + 1) = as.reverse.take i ++ [v9] := by
      rw [List.take_add_one, List.getElem?_reverse (by k_extra "OM"), show as.length - 1 - i = k - 1 - i by omega, hv9]
      rfl
    have l9 : (as.reverse.take i).length ≤ k := by rw [List.length_take]; omega
    clear hne ag
    k_sweep
    (try dsimp only)
    k_extra "STEPS"
    rename News _ _ _ _ => N8
    rw [List.append_assoc, ← e9] at N8
    exact TurnJ.next (by assumption) N8 (by k_extra "SEPI") ⟨_, _, .cons rfl (.cons rfl (.cons rfl .nil)), rfl⟩
  · intro m₁ news₁ h₁ tk₁ hR4 F₁ N₁; obtain ⟨n, tp, ag, rfl⟩ := hR4
    rw [ag.form] at F₁
    rw [List.take_of_length_le (by simp [hla])] at N₁
    k_sweep
    (try dsimp only)
    k_extra "STEPS"
    k_extra "LV"
    exact ret _ _ _ (by with_reducible assumption) (News.join (by assumption))
end
end Part9
section Part10
section
variable {prog : Program} {w : World} {A : Around} {E : Value → Shared → Prop} {s : Shared} {h₀ : Heap} {L D : Addr} {m : Str → Option Value} {news news' : List (Addr × Obj)} {vs : List Value} {n : Nat}
theorem pop_any {y : Value} {Q : Value → Shared → Prop} (F : Fr h₀ L s.heap m) (N : News h₀ L s.heap news) (U : Upd D (listOf (vs ++ [y]).toArray n) (listOf vs.toArray (n + 1)) news news')
    (h : ∀ h', Fr h₀ L h' m → News h₀ L h' news' → Q y { s with heap := h' }) (hz : vs.length ≤ 1000000) : wpAny (model prog w) A (call (.builtin "list.pop") [.ref D]) Q E s := by
  refine kl_pop F N (p := vs) (y := y) (its := (vs ++ [y]).toArray) ?_ U (by rw [sizeLine_eq]; simp; omega) h
  exact kpa_last y vs
end
noncomputable def AW (H : List (Int × Int)) (Ar : List Nat) (c : Int × Int) (k : Nat) : Prop := (c.1 = 3 ∧ k = 2) ∨ (c.1 = 2 ∧ ∃ f, 0 ≤ c.2 ∧ H[c.2.toNat]? = some (6, f) ∧ 0 ≤ f ∧ Ar[f.toNat]? = some k)
noncomputable def ArP (Tp : Value → Int × Int → Prop) (fl : List Value) (Ar : List Nat) : Prop := fl.length = Ar.length ∧ ∀ (i k : Nat), Ar[i]? = some k → ∃ av at_, fl[i]? = some av ∧ Tp av (at_, (k : Int))
inductive Srch (H S : List (Int × Int)) (Ar : List Nat) (t : Int × Int) : Nat → List Int → List (Int × Int) → Bool → Prop where
  | done {met} : Srch H S Ar t 0 met [] false
  | skip {n j : Nat} {met : List Int} {work : List (Int × Int)} {c d : Int × Int} {b : Bool} : Der H S j c d → d ≠ t → isC d = false → work.length ≤ 5000 → Srch H S Ar t n met work b → Srch H S Ar t (n + 1) met (work ++ [c]) b
  | hit {n j : Nat} {met : List Int} {work : List (Int × Int)} {c d : Int × Int} : Der H S j c d → d = t → work.length ≤ 5000 → Srch H S Ar t n met (work ++ [c]) true
  | seen {n j : Nat} {met : List Int} {work : List (Int × Int)} {c d : Int × Int} {b : Bool} : Der H S j c d → isC d = true → d ≠ t → d.2 ∈ met → work.length ≤ 5000 → met.length ≤ 1000 → Srch H S Ar t n met work b → Srch H S Ar t (n + 1) met (work ++ [c]) b
  | push {n j : Nat} {met : List Int} {work : List (Int × Int)} {c d : Int × Int} {b : Bool} {k : Nat} {as : List (Int × Int)} : Der H S j c d → isC d = true → d ≠ t → ¬ d.2 ∈ met → work.length ≤ 5000 → met.length ≤ 1000 → 0 ≤ d.2 → d.2 < 1000000 → AW H Ar d k → k ≤ 50 → as.length = k → (∀ j, j < k → as[j]? = H[(baseOf d + (j : Int)).toNat]?) →
      Srch H S Ar t n (d.2 :: met) (work ++ as.reverse) b → Srch H S Ar t (n + 1) met (work ++ [c]) b
theorem ln12 : True := by
  (k_with "call builtin:list.pop" => ((k_here; (with_reducible show wpAny _ _ (call (Value.builtin _) [Value.ref _]) _ _ _); k_dflt (refine' pop_any ?k1 ?k2 ?k3 ?_ ?z; (case k1 => k_asm); (case k2 => k_asm); (case k3 => k_upd); (case z => first | with_reducible assumption | ((try simp only [List.length_append, List.length_cons, List.length_nil, List.length_set]); omega)); k_whole); intro _ _ _; (try k_sweep))))
  (k_with "ite" => (first | (refine ite_pos ?c ?_; (case c => ((try simp only [decide_eq_true_eq, beq_iff_eq, Bool.not_eq_true', decide_eq_false_iff_not, ne_eq, List.length_append, List.length_cons, List.length_nil]); first | assumption | omega))) | (refine ite_neg ?c ?_; (case c => ((try simp only [decide_eq_true_eq, beq_iff_eq, Bool.not_eq_true', Bool.not_eq_true, Bool.not_eq_false', Bool.not_eq_false, decide_eq_false_iff_not, ne_eq, Decidable.not_not, List.length_append, List.length_cons, List.length_nil]); first | assumption | omega)))))
  trivial
theorem Srch.inv {H S : List (Int × Int)} {Ar : List Nat} {t : Int × Int} {n : Nat} {met : List Int} {work : List (Int × Int)} {b : Bool} (sr : Srch H S Ar t n met work b) :
    (work = [] ∧ b = false) ∨ ∃ (j : Nat) (w' : List (Int × Int)) (c d : Int × Int), work = w' ++ [c] ∧ Der H S j c d ∧ w'.length ≤ 5000 ∧ ((d = t ∧ b = true) ∨ (∃ n2, n = n2 + 1 ∧ d ≠ t ∧ isC d = false ∧ Srch H S Ar t n2 met w' b) ∨ (∃ n2, n = n2 + 1 ∧ isC d = true ∧ d ≠ t ∧ d.2 ∈ met ∧ met.length ≤ 1000 ∧ Srch H S Ar t n2 met w' b) ∨
      ∃ (n2 k : Nat) (as : List (Int × Int)), n = n2 + 1 ∧ isC d = true ∧ d ≠ t ∧ ¬ d.2 ∈ met ∧ met.length ≤ 1000 ∧ 0 ≤ d.2 ∧ d.2 < 1000000 ∧ AW H Ar d k ∧ k ≤ 50 ∧ as.length = k ∧ (∀ j, j < k → as[j]? = H[(baseOf d + (j : Int)).toNat]?) ∧ Srch H S Ar t n2 (d.2 :: met) (w' ++ as.reverse) b) := by
  cases sr with
  | done => exact .inl ⟨rfl, rfl⟩
  | skip a b c d e => exact .inr ⟨_, _, _, _, rfl, a, d, .inr (.inl ⟨_, rfl, b, c, e⟩)⟩
  | hit a b c => exact .inr ⟨_, _, _, _, rfl, a, c, .inl ⟨b, rfl⟩⟩
  | seen a b c d e f g => exact .inr ⟨_, _, _, _, rfl, a, e, .inr (.inr (.inl ⟨_, rfl, b, c, d, f, g⟩))⟩
  | push a b c d e f g h i j k l m => exact .inr ⟨_, _, _, _, rfl, a, e, .inr (.inr (.inr ⟨_, _, _, rfl, b, c, d, f, g, h, i, j, k, l, m⟩))⟩
theorem CellsP.snoc {Tp : Value → Int × Int → Prop} : ∀ {vs : List Value} {cs : List (Int × Int)} {c : Int × Int}, CellsP Tp vs (cs ++ [c]) → ∃ us v, vs = us ++ [v] ∧ CellsP Tp us cs ∧ Tp v c
  | _, [], _, .cons t .nil => ⟨[], _, rfl, .nil, t⟩
  | _, _ :: _, _, .cons t r => by
    obtain ⟨us, v, e, a, b⟩ := r.snoc
    exact ⟨_ :: us, v, by rw [e]; rfl, .cons t a, b⟩
theorem CellsP.reverse {Tp : Value → Int × Int → Prop} : ∀ {vs : List Value} {cs : List (Int × Int)}, CellsP Tp vs cs → CellsP Tp vs.reverse cs.reverse
  | _, _, .nil => .nil
  | _, _, .cons t r => by
    rw [List.reverse_cons, List.reverse_cons]
    exact r.reverse.app (.cons t .nil)
/-- the values of a row of places -/
theorem CellsP.row {Tp : Value → Int × Int → Prop} {hs : List Value} {H : List (Int × Int)} (cH : CellsP Tp hs H) (f : Nat → Nat) : ∀ {as : List (Int × Int)}, (∀ j, j < as.length → as[j]? = H[f j]?) → ∃ us, us.length = as.length ∧ CellsP Tp us as ∧ ∀ j, j < as.length → us[j]? = hs[f j]? := by
  intro as
  induction as generalizing f with
  | nil => exact fun _ => ⟨[], rfl, .nil, fun _ h => absurd h (Nat.not_lt_zero _)⟩
  | cons c r ih =>
    intro h
    have h0 := h 0 (Nat.succ_pos _)
    refine Classical.byContradiction fun nGo => ?_
    obtain ⟨v, e, t⟩ := cH.get (i := f 0) (c := c) (by rw [← h0]; rfl)
    obtain ⟨us, a, b, d⟩ := ih (fun j => f (j + 1)) (fun j hj => by have := h (j + 1) (by simpa using hj); simpa using this)
    refine nGo ?_; clear nGo
    refine ⟨v :: us, by simp [a], .cons t b, fun j hj => ?_⟩
    cases j with
    | zero => exact e.symm
    | succ j => simpa using d j (by simpa using hj)
theorem wid_of {Tp : Value → Int × Int → Prop} {h : Heap} (hTp : ∀ v c, Tp v c → TupG h v c) {hs fl : List Value} {H : List (Int × Int)} {Ar : List Nat} (cH : CellsP Tp hs H) (aF : ArP Tp fl Ar) (b : hs.length < 99000) (b2 : fl.length < 99000) {c : Int × Int} {k : Nat} (a : AW H Ar c k) : Wid h hs fl c (k : Int) := by
  obtain ⟨e, rfl⟩ | ⟨e, f, h0, h1, h2, h3⟩ := a
  · exact .inl ⟨e, rfl⟩
  · obtain ⟨fv, e1, t1⟩ := cH.get h1
    obtain ⟨av, at_, e2, t2⟩ := aF.2 _ _ h3
    have l1 := (List.getElem?_eq_some_iff.mp e1).1
    have l2 := (List.getElem?_eq_some_iff.mp e2).1
    exact .inr (.inl ⟨e, fv, f, av, at_, h0, by omega, e1, hTp _ _ t1, h2, by omega, e2, hTp _ _ t2⟩)
inductive JW (prog : Program) (w : World) (Tp : Value → Int × Int → Prop) (Ha Sa : List (Int × Int)) (Ar : List Nat) (t : Int × Int) (b : Bool) (nm : Str) (st at_ M Wk : Addr) (n : Nat) (m : Str → Option Value) (news : List (Addr × Obj)) : Prop where
  | mk (met : List Int) (work : List (Int × Int)) (ws : List Value) (so : Obj) (k nW : Nat) (ag : Agree m [(Str.ofString "store", .ref st), (nm, .ref at_), (Str.ofString "met", .ref M), (Str.ofString "work", .ref Wk)]) (e : news = [(Wk, listOf (List.toArray ws) nW), (M, so)]) (cw : CellsP Tp ws work) (hso : so.SetObjOf (intKind prog w) (fun x => decide (x ∈ met)) k) (hk : k ≤ met.length) (sr : Srch Ha Sa Ar t n met work b) : JW prog w Tp Ha Sa Ar t b nm st at_ M Wk n m news
section
variable {prog : Program} {w : World} {p : Program} {loose : List Str} {mean : ExcName → Option Value} {mg mb : Str → Option Value} {dp un : Nat} {gd : Option (List Code)} {cn : Str} {cs : Scope} {a : Addr} {ccd : Value} {cl : List (Str × Addr)} {outer : List Env} {A₀ : Around} {base h₀ : Heap} {L : Addr} {m : Str → Option Value} {s : Shared} {Q E : Value → Shared → Prop}
  (B : Below A₀ base outer h₀) (F : Fr h₀ L s.heap m) (X : (Mine.hd.heap_1 w.params).In h₀) (T : Top p loose mean mg mb h₀) (hk : cs.kind = .function) (hd : dp + 20 < recursionLimit) (hu : un + 400 < cLine)
include B F X T hk hd hu
theorem reaches_spec {news : List (Addr × Obj)} {st bk H S TX AN FL FN : Addr} {hs ss fl : List Value} {v tv : Value} {Tp : Value → Int × Int → Prop} {Ha Sa : List (Int × Int)} {Ar : List Nat} {c t : Int × Int} {n : Nat} {b : Bool}
    (N : News h₀ L s.heap news) (hS : Sto w.params s.heap st bk H S) (hB : Bok w.params s.heap bk TX AN FL FN) (hH : LstG s.heap H hs) (hT : LstG s.heap S ss) (hF : LstG s.heap FL fl)
    (hTp : ∀ v c, Tp v c → TupG s.heap v c) (cH : CellsP Tp hs Ha) (cS : CellsP Tp ss Sa) (aF : ArP Tp fl Ar) (tc : Tp v c) (tt : TupG s.heap tv t) (ct : isC t = true) (bH : Ha.length < 90000) (bS : Sa.length < 90000) (bF : fl.length < 90000) (hs_ : Srch Ha Sa Ar t n [] [c] b)
    (ret : ∀ h' tk', Fr h₀ L h' m → News h₀ L h' news → Q (.bool b) { s with heap := h', toks := tk' }) :
    wpAny (model prog w) (ktrTop dp un gd cn cs L a ccd cl outer) (call (.ref 404) [.ref st, v, tv]) Q E s := by
  have N0 : News h₀ L s.heap [] := News.nil
  have sep : ∀ q ∈ news, q.1 ∉ ([] : List (Addr × Obj)).map (·.1) := fun _ _ h => nomatch h
  have lH := cH.length
  have lS := cS.length
  have b9H : hs.length < 99000 := by omega
  have b9S : ss.length < 99000 := by omega
  k_dflt (refine' enterM (binds := [(Str.ofString "store", .ref st), (Str.ofString "cell", v), (Str.ofString "target", tv)]) ?k1 ?k2 ?k3 ?k4 ?kr ?ks ?k5 ?kK ?k8 ?k6 ?k7 ?k9 ?kB ?_ ?c2 ?c3 ?c4 ?c5; k_extra "ENTER")
  intro g L' h' tk F' N' B' X' T' hg
  have hg : ∀ b o, s.heap.get? b = some o → g.get? b = some o := fun b o e => hg b o e (fun h => nomatch h)
  have hSg := hS.keep hg
  have hBg := hB.keep hg
  refine Classical.byContradiction fun nGo => ?_
  obtain ⟨n1, hH⟩ := hH
  obtain ⟨n2, hT⟩ := hT
  obtain ⟨n3, hF⟩ := hF
  replace hH := hg _ _ hH
  replace hT := hg _ _ hT
  replace hF := hg _ _ hF
  have hTg : ∀ v c, Tp v c → TupG g v c := fun v c t => (hTp v c t).keep hg
  have ttg := tt.keep hg
  obtain ⟨at_, t1, t2, nc, rfl, ht⟩ := id ttg
  obtain ⟨dst, Tr, kk, u, hst, hdst⟩ := id hSg
  refine nGo ?_; clear nGo
  (try dsimp only)
  iterate 15 walk1
  rename_i M _ _ hso₀ hz _ _ Wk _ lMW _ F' N'
  clear hg hz
  show wpAny _ _ _ _ _ _
  (try dsimp only)
  walk1
  refine While_inv2 (JW prog w Tp Ha Sa Ar t b (Str.ofString "target") st at_ M Wk) F' N' ⟨[], [c], [v], _, 0, 0, .cons rfl (.cons rfl (.cons rfl (.cons rfl .nil))), rfl, .cons tc .nil, (by simpa using hso₀), Nat.le_refl _, hs_⟩ ?_ (by with_unfolding_all passes_own)
  intro n₁ m₁ news₁ h₁ tk₁ F₁ N₁ hR7; obtain ⟨met, work, ws, so, k, nW, ag, rfl, cw, hso, hkm, sr⟩ := hR7
  rw [ag.form] at F₁
  clear F' N' ag hso₀ hs_
  show wpAny _ _ _ _ _ _
  obtain ⟨rfl, rfl⟩ | ⟨j, work, c1, d1, rfl, hd1, hw, sc⟩ := sr.inv
  · cases cw
    k_extra "STEPS"
    (k_extra "LV"; exact ret _ _ (by with_reducible assumption) (News.sub (by with_reducible assumption) (fun _ h => .tail _ (.tail _ h))))
  · obtain ⟨us, v₁, rfl, cu, tv⟩ := cw.snoc
    refine Classical.byContradiction fun nGo => ?_
    obtain ⟨r₁, tr, dv⟩ := derV_of hTg cH cS (by k_extra "OM") (by k_extra "OM") hd1 tv
    obtain ⟨ar, t3, t4, n4, rfl, hr⟩ := id (hTg _ _ tr)
    refine nGo ?_; clear nGo
    have lu := cu.length
    clear cw
    have e9 : (List.length (us ++ [v₁]) : Int) > 0 := by rw [List.length_append, List.length_singleton]; omega
    k_extra "STEPS"
    show wpAny _ _ _ _ _ _
    k_dflt (refine' deref_spec ?B ?F ?X ?T ?hk ?hd ?hu ?N ?hS ?hH ?hT ?hv ?_; k_extra "CTX"; (case hS => k_extra "KEEP"); (case hH => k_extra "KEEP"); (case hT => k_extra "KEEP"); (case hv => exact DerV.keep dv (Fr.keep (by with_reducible assumption))))
    intro h' tk' F' N'
    k_extra "AFTER"
    obtain ⟨he, rfl⟩ | ⟨n2, rfl, hne, hc1, sr⟩ | ⟨n2, rfl, hc1, hne, hm, hmm, sr⟩ | ⟨n2, k1, as, rfl, hc1, hne, hm, hmm, p0, p1, aw, ak, al, ag1, sr⟩ := sc
    · have hc1 : isC d1 = true := he ▸ ct
      k_extra "STEPS"
      (k_extra "LV"; exact ret _ _ (by with_reducible assumption) (News.sub (by with_reducible assumption) (fun _ h => .tail _ (.tail _ h))))
    · k_extra "STEPS"
      exact ⟨_, _, _, _, n2, rfl, by assumption, by assumption, Nat.lt_succ_self _, _, _, _, _, _, _, .cons rfl (.cons rfl (.cons rfl (.cons rfl .nil))), rfl, cu, hso, hkm, sr⟩
    · k_extra "STEPS"
      exact ⟨_, _, _, _, n2, rfl, by assumption, by assumption, Nat.lt_succ_self _, _, _, _, _, _, _, .cons rfl (.cons rfl (.cons rfl (.cons rfl .nil))), rfl, cu, hso, hkm, sr⟩
    · k_extra "STEPS"
      rename_i N9 hs9
      obtain ⟨vas, lv, cv, ev⟩ := CellsP.row cH (fun j => (baseOf d1 + (j : Int)).toNat) (as := as) (fun j h => ag1 j (by k_extra "OM"))
      have fH : ¬ H = Wk := fun e => by
        rw [e] at hH
        exact absurd ((News.fresh N9 (.head _)).symm.trans hH) (by simp)
      have fF : ¬ FL = Wk := fun e => by
        rw [e] at hF
        exact absurd ((News.fresh N9 (.head _)).symm.trans hF) (by simp)
      have wd := wid_of hTg cH aF (by k_extra "OM") (by k_extra "OM") aw
      show wpAny _ _ _ _ _ _
      k_dflt (refine' args_spec (as := vas) (k := k1) ?B ?F ?X ?T ?hk ?hd ?hu ?N ?sep ?hS ?hB ?hH ?hF ?hHW ?hFW ?hv ?hw ?h0 ?h1 ?hk1 ?hl ?ha ?hla ?_; k_extra "CTX2"; (case N => exact News.at0 N9); (case sep => k_extra "SEP"); (case hS => k_extra "KEEP"); (case hB => k_extra "KEEP"); (case hH => k_extra "KEEP"); (case hF => k_extra "KEEP"); (case hHW => exact fH); (case hFW => exact fF); (case hv => k_extra "KEEP"); (case hw => exact Wid.keep wd (Fr.keep (by with_reducible assumption))); (case h0 => exact p0); (case h1 => exact p1); (case hk1 => exact ak); (case hl => k_extra "OM"); (case ha => exact fun j h => ev j (by k_extra "OM")); (case hla => k_extra "OM"))
      intro h' tk' n9 F' N'
      (try dsimp only [List.nil_append, List.cons_append] at N')
      k_extra "AFTER"
      k_extra "STEPS"
      refine ⟨_, _, _, _, n2, rfl, by assumption, by assumption, Nat.lt_succ_self _, d1.2 :: met, _, _, _, k + 1, _, .cons rfl (.cons rfl (.cons rfl (.cons rfl .nil))), rfl, cu.app cv.reverse, ?_, ?_, sr⟩
      · rw [if_neg (by simpa using hm)] at hs9
        have e : (fun x => decide (x ∈ d1.2 :: met)) = fun k' => decide (k' ∈ met) || decide (k' = d1.2) := by
          funext x
          simp [Bool.or_comm]
        rw [e]
        exact hs9
      · simp only [List.length_cons]
        omega
end
end Part10
section Part11
noncomputable def Occ (H S : List (Int × Int)) (Ar : List Nat) (t c : Int × Int) (b : Bool) : Prop :=
  ∃ j d, Der H S j c d ∧ ((d = t ∧ b = true) ∨ (d ≠ t ∧ t.1 = 1 ∧ b = false) ∨ (d ≠ t ∧ t.1 ≠ 1 ∧ isC d = false ∧ b = false) ∨ (d ≠ t ∧ t.1 ≠ 1 ∧ isC d = true ∧ ∃ n, Srch H S Ar t n [] [d] b))
section
variable {prog : Program} {w : World} {p : Program} {loose : List Str} {mean : ExcName → Option Value} {mg mb : Str → Option Value} {dp un : Nat} {gd : Option (List Code)} {cn : Str} {cs : Scope} {a : Addr} {ccd : Value} {cl : List (Str × Addr)} {outer : List Env} {A₀ : Around} {base h₀ : Heap} {L : Addr} {m : Str → Option Value} {s : Shared} {Q E : Value → Shared → Prop}
  (B : Below A₀ base outer h₀) (F : Fr h₀ L s.heap m) (X : (Mine.hd.heap_1 w.params).In h₀) (T : Top p loose mean mg mb h₀) (hk : cs.kind = .function) (hd : dp + 20 < recursionLimit) (hu : un + 400 < cLine)
include B F X T hk hd hu
theorem ln13 : True := by
  (k_with "exec While" => (refine stopHere ?_))
  (k_with "exec While Compare" => (refine stopHere ?_))
  (k_with "exec While BoolOp" => (refine stopHere ?_))
  trivial
theorem occurs_spec {news : List (Addr × Obj)} {st bk H S TX AN FL FN : Addr} {hs ss fl : List Value} {v tv : Value} {Tp : Value → Int × Int → Prop} {Ha Sa : List (Int × Int)} {Ar : List Nat} {c t : Int × Int} {b : Bool}
    (N : News h₀ L s.heap news) (hS : Sto w.params s.heap st bk H S) (hB : Bok w.params s.heap bk TX AN FL FN) (hH : LstG s.heap H hs) (hT : LstG s.heap S ss) (hF : LstG s.heap FL fl)
    (hTp : ∀ v c, Tp v c → TupG s.heap v c) (cH : CellsP Tp hs Ha) (cS : CellsP Tp ss Sa) (aF : ArP Tp fl Ar) (tc : Tp v c) (tt : TupG s.heap tv t) (bH : Ha.length < 90000) (bS : Sa.length < 90000) (bF : fl.length < 90000) (hs_ : Occ Ha Sa Ar t c b)
    (ret : ∀ h' tk', Fr h₀ L h' m → News h₀ L h' news → Q (.bool b) { s with heap := h', toks := tk' }) :
    wpAny (model prog w) (ktrTop dp un gd cn cs L a ccd cl outer) (call (.ref 397) [.ref st, tv, v]) Q E s := by
  have N0 : News h₀ L s.heap [] := News.nil
  have sep : ∀ q ∈ news, q.1 ∉ ([] : List (Addr × Obj)).map (·.1) := fun _ _ h => nomatch h
  have lH := cH.length
  have lS := cS.length
  have b9H : hs.length < 99000 := by omega
  have b9S : ss.length < 99000 := by omega
  k_dflt (refine' enterM (binds := [(Str.ofString "store", .ref st), (Str.ofString "variable", tv), (Str.ofString "cell", v)]) ?k1 ?k2 ?k3 ?k4 ?kr ?ks ?k5 ?kK ?k8 ?k6 ?k7 ?k9 ?kB ?_ ?c2 ?c3 ?c4 ?c5; k_extra "ENTER")
  intro g L' h' tk F' N' B' X' T' hg
  have hg : ∀ b o, s.heap.get? b = some o → g.get? b = some o := fun b o e => hg b o e (fun h => nomatch h)
  have hSg := hS.keep hg
  have hBg := hB.keep hg
  refine Classical.byContradiction fun nGo => ?_
  obtain ⟨n1, hH⟩ := hH
  obtain ⟨n2, hT⟩ := hT
  obtain ⟨n3, hF⟩ := hF
  replace hH := hg _ _ hH
  replace hT := hg _ _ hT
  replace hF := hg _ _ hF
  have hTg : ∀ v c, Tp v c → TupG g v c := fun v c t => (hTp v c t).keep hg
  have ttg := tt.keep hg
  obtain ⟨at_, t1, t2, nc, rfl, ht⟩ := id ttg
  obtain ⟨dst, Tr, kk, u, hst, hdst⟩ := id hSg
  obtain ⟨j0, d0, hd0, oc⟩ := hs_
  obtain ⟨r0, tr0, dv⟩ := derV_of hTg cH cS (by k_extra "OM") (by k_extra "OM") hd0 tc
  obtain ⟨ar0, t30, t40, n40, rfl, hr0⟩ := id (hTg _ _ tr0)
  refine nGo ?_; clear nGo
  (try dsimp only)
  k_extra "STEPS"
  show wpAny _ _ _ _ _ _
  k_dflt (refine' deref_spec ?B ?F ?X ?T ?hk ?hd ?hu ?N ?hS ?hH ?hT ?hv ?_; k_extra "CTX"; (case hS => k_extra "KEEP"); (case hH => k_extra "KEEP"); (case hT => k_extra "KEEP"); (case hv => exact DerV.keep dv (Fr.keep (by with_reducible assumption))))
  intro h' tk' F' N'
  k_extra "AFTER"
  obtain ⟨he, rfl⟩ | ⟨hne, hv1, rfl⟩ | ⟨hne, hv1, hc, rfl⟩ | ⟨hne, hv1, hc, n, hs_⟩ := oc
  · k_extra "STEPS"
    (k_extra "LV"; exact ret _ _ (by with_reducible assumption) (by with_reducible assumption))
  · k_extra "STEPS"
    (k_extra "LV"; exact ret _ _ (by with_reducible assumption) (by with_reducible assumption))
  · k_extra "STEPS"
    (k_extra "LV"; exact ret _ _ (by with_reducible assumption) (by with_reducible assumption))
  · k_extra "STEPS"
    rename_i M _ _ hso₀ hz _ _ _ _ Wk _ lMW _ F' N'
    clear hz
    show wpAny _ _ _ _ _ _
    (try dsimp only)
    refine While_inv2 (JW prog w Tp Ha Sa Ar t b (Str.ofString "variable") st at_ M Wk) F' N' ⟨[], [d0], [.ref ar0], _, 0, 0, .cons rfl (.cons rfl (.cons rfl (.cons rfl .nil))), rfl, .cons tr0 .nil, (by simpa using hso₀), Nat.le_refl _, hs_⟩ ?_ (by with_unfolding_all passes_own)
    intro n₁ m₁ news₁ h₁ tk₁ F₁ N₁ hR7; obtain ⟨met, work, ws, so, k, nW, ag, rfl, cw, hso, hkm, sr⟩ := hR7
    rw [ag.form] at F₁
    clear F' N' ag hso₀ hs_
    show wpAny _ _ _ _ _ _
    obtain ⟨rfl, rfl⟩ | ⟨j, work, c1, d1, rfl, hd1, hw, sc⟩ := sr.inv
    · cases cw
      k_extra "STEPS"
      (k_extra "LV"; exact ret _ _ (by with_reducible assumption) (News.sub (by with_reducible assumption) (fun _ h => .tail _ (.tail _ h))))
    · obtain ⟨us, v₁, rfl, cu, tv⟩ := cw.snoc
      refine Classical.byContradiction fun nGo => ?_
      obtain ⟨r₁, tr, dv⟩ := derV_of hTg cH cS (by k_extra "OM") (by k_extra "OM") hd1 tv
      obtain ⟨ar, t3, t4, n4, rfl, hr⟩ := id (hTg _ _ tr)
      refine nGo ?_; clear nGo
      have lu := cu.length
      clear cw
      have e9 : (List.length (us ++ [v₁]) : Int) > 0 := by rw [List.length_append, List.length_singleton]; omega
      k_extra "STEPS"
      show wpAny _ _ _ _ _ _
      k_dflt (refine' deref_spec ?B ?F ?X ?T ?hk ?hd ?hu ?N ?hS ?hH ?hT ?hv ?_; k_extra "CTX"; (case hS => k_extra "KEEP"); (case hH => k_extra "KEEP"); (case hT => k_extra "KEEP"); (case hv => exact DerV.keep dv (Fr.keep (by with_reducible assumption))))
      intro h' tk' F' N'
      k_extra "AFTER"
      obtain ⟨he, rfl⟩ | ⟨n2, rfl, hne, hc1, sr⟩ | ⟨n2, rfl, hc1, hne, hm, hmm, sr⟩ | ⟨n2, k1, as, rfl, hc1, hne, hm, hmm, p0, p1, aw, ak, al, ag1, sr⟩ := sc
      · k_extra "STEPS"
        (k_extra "LV"; exact ret _ _ (by with_reducible assumption) (News.sub (by with_reducible assumption) (fun _ h => .tail _ (.tail _ h))))
      · k_extra "STEPS"
        exact ⟨_, _, _, _, n2, rfl, by assumption, by assumption, Nat.lt_succ_self _, _, _, _, _, _, _, .cons rfl (.cons rfl (.cons rfl (.cons rfl .nil))), rfl, cu, hso, hkm, sr⟩
      · k_extra "STEPS"
        exact ⟨_, _, _, _, n2, rfl, by assumption, by assumption, Nat.lt_succ_self _, _, _, _, _, _, _, .cons rfl (.cons rfl (.cons rfl (.cons rfl .nil))), rfl, cu, hso, hkm, sr⟩
      · k_extra "STEPS"
        rename_i N9 hs9
        obtain ⟨vas, lv, cv, ev⟩ := CellsP.row cH (fun j => (baseOf d1 + (j : Int)).toNat) (as := as) (fun j h => ag1 j (by k_extra "OM"))
        have fH : ¬ H = Wk := fun e => by
          rw [e] at hH
          exact absurd ((News.fresh N9 (.head _)).symm.trans hH) (by simp)
        have fF : ¬ FL = Wk := fun e => by
          rw [e] at hF
          exact absurd ((News.fresh N9 (.head _)).symm.trans hF) (by simp)
        have wd := wid_of hTg cH aF (by k_extra "OM") (by k_extra "OM") aw
        show wpAny _ _ _ _ _ _
        k_dflt (refine' args_spec (as := vas) (k := k1) ?B ?F ?X ?T ?hk ?hd ?hu ?N ?sep ?hS ?hB ?hH ?hF ?hHW ?hFW ?hv ?hw ?h0 ?h1 ?hk1 ?hl ?ha ?hla ?_; k_extra "CTX2"; (case N => exact News.at0 N9); (case sep => k_extra "SEP"); (case hS => k_extra "KEEP"); (case hB => k_extra "KEEP"); (case hH => k_extra "KEEP"); (case hF => k_extra "KEEP"); (case hHW => exact fH); (case hFW => exact fF); (case hv => k_extra "KEEP"); (case hw => exact Wid.keep wd (Fr.keep (by with_reducible assumption))); (case h0 => exact p0); (case h1 => exact p1); (case hk1 => exact ak); (case hl => k_extra "OM"); (case ha => exact fun j h => ev j (by k_extra "OM")); (case hla => k_extra "OM"))
        intro h' tk' n9 F' N'
        (try dsimp only [List.nil_append, List.cons_append] at N')
        k_extra "AFTER"
        k_extra "STEPS"
        refine ⟨_, _, _, _, n2, rfl, by assumption, by assumption, Nat.lt_succ_self _, d1.2 :: met, _, _, _, k + 1, _, .cons rfl (.cons rfl (.cons rfl (.cons rfl .nil))), rfl, cu.app cv.reverse, ?_, ?_, sr⟩
        · rw [if_neg (by simpa using hm)] at hs9
          have e : (fun x => decide (x ∈ d1.2 :: met)) = fun k' => decide (k' ∈ met) || decide (k' = d1.2) := by
            funext x
            simp [Bool.or_comm]
          rw [e]
          exact hs9
        · simp only [List.length_cons]
          omega
end
end Part11
section Part12
section
variable {prog : Program} {w : World} {p : Program} {loose : List Str} {mean : ExcName → Option Value} {mg mb : Str → Option Value} {dp un : Nat} {gd : Option (List Code)} {cn : Str} {cs : Scope} {a : Addr} {ccd : Value} {cl : List (Str × Addr)} {outer : List Env} {A₀ : Around} {base h₀ : Heap} {L : Addr} {m : Str → Option Value} {s : Shared} {Q E : Value → Shared → Prop}
  (B : Below A₀ base outer h₀) (F : Fr h₀ L s.heap m) (X : (Mine.hd.heap_1 w.params).In h₀) (T : Top p loose mean mg mb h₀) (hk : cs.kind = .function) (hd : dp + 5 < recursionLimit) (hu : un + 100 < cLine)
include B F X T hk hd hu
theorem ln14 : True := by
  k_with_none
  (k_with "LIT0" => (first | with_reducible assumption | ((first | (with_reducible show @LE.le Nat _ (OfNat.ofNat _) (OfNat.ofNat _)) | (with_reducible show @LT.lt Nat _ (OfNat.ofNat _) (OfNat.ofNat _))); exact Nat.le_of_ble_eq_true rfl)))
  (k_with "LIT1" => (first | with_reducible assumption | (with_reducible refine' Nat.lt_of_lt_of_le ?ha ?hb; (case ha => with_reducible assumption); (case hb => k_extra "LIT0")) | (with_reducible refine' Nat.lt_of_le_of_lt ?ha ?hb; (case ha => with_reducible assumption); (case hb => k_extra "LIT0")) | (with_reducible refine' Nat.le_trans ?ha ?hb; (case ha => with_reducible assumption); (case hb => k_extra "LIT0")) | (with_reducible refine' Nat.le_of_lt (Nat.lt_of_lt_of_le ?ha ?hb); (case ha => with_reducible assumption); (case hb => k_extra "LIT0")) | (with_reducible refine' Nat.lt_of_le_of_lt (Nat.le_of_eq ?ha) ?hb; (case ha => with_reducible assumption); (case hb => k_extra "LIT0")) | (with_reducible refine' Nat.le_trans (Nat.le_of_eq ?ha) ?hb; (case ha => with_reducible assumption); (case hb => k_extra "LIT0"))))
  (k_with "LIT2" => (first | with_reducible assumption | (with_reducible refine' Nat.lt_of_lt_of_le ?ha ?hb; (case ha => with_reducible assumption); (case hb => k_extra "LIT1")) | (with_reducible refine' Nat.lt_of_le_of_lt ?ha ?hb; (case ha => with_reducible assumption); (case hb => k_extra "LIT1")) | (with_reducible refine' Nat.le_trans ?ha ?hb; (case ha => with_reducible assumption); (case hb => k_extra "LIT1")) | (with_reducible refine' Nat.le_of_lt (Nat.lt_of_lt_of_le ?ha ?hb); (case ha => with_reducible assumption); (case hb => k_extra "LIT1")) | (with_reducible refine' Nat.lt_of_le_of_lt (Nat.le_of_eq ?ha) ?hb; (case ha => with_reducible assumption); (case hb => k_extra "LIT1")) | (with_reducible refine' Nat.le_trans (Nat.le_of_eq ?ha) ?hb; (case ha => with_reducible assumption); (case hb => k_extra "LIT1"))))
  (k_with "OM" => (first | with_reducible assumption | with_reducible exact Int.natCast_nonneg _ | with_reducible exact Int.ofNat_lt.mpr (by with_reducible assumption) | with_reducible exact i63 (by k_extra "LIT2") | k_extra "LIT2" | omega))
  (k_with "LTC" => (first | with_reducible assumption | (refine' Nat.lt_trans ?ha ?hb; (case ha => with_reducible assumption); (case hb => k_extra "LTC"))))
  (k_with "NEC" => ((refine neN ?_; (try dsimp only); first | (refine' Nat.ne_of_lt ?hc; (case hc => k_extra "LTC")) | (refine' Nat.ne_of_gt ?hc; (case hc => k_extra "LTC")) | omega)))
  (k_with "ROOMN" => (first | (refine' roomN ?ha (Nat.add_assoc _ _ _) ?hb; (case ha => with_reducible assumption); (case hb => exact rfl)) | (refine' roomN ?ha rfl ?hb; (case ha => with_reducible assumption); (case hb => exact rfl)) | (refine' roomN ?ha ((Nat.add_assoc _ _ _).trans (Nat.add_assoc _ _ _)) ?hb; (case ha => with_reducible assumption); (case hb => exact rfl)) | exact Nat.lt_of_le_of_lt (Nat.le_add_right _ _) (by with_reducible assumption)))
  (k_with "MKUNITS" => (first | k_extra "ROOMN" | ktr_units))
  (k_with "MKNE" => (first | k_extra "NEC" | ((try dsimp only); assumption) | ((try dsimp only); exact Ne.symm (by assumption)) | ((try dsimp only); exact News.ne (by with_reducible assumption) (by k_mem) (by k_mem) (ne_typ rfl))))
  (k_with "MKALL" => (first | assumption | exact List.forall_mem_nil _ | (refine' List.forall_mem_cons.mpr ⟨?a, ?b⟩; (case a => k_ne); (case b => k_all))))
  (k_with "GET" => (first | exact Fr.keep (by with_reducible assumption) _ _ (by with_reducible assumption) | exact News.get (by with_reducible assumption) (by k_mem)))
  (k_with "MKINST" => (exact instG (by k_extra "GET") (by k_extra "GET")))
  (k_with "MISLIST" => (exact isListG (by k_extra "GET")))
  (k_with "ENTER" => (((case ks => assumption); (case k1 => assumption); (case k2 => assumption); (case k3 => assumption); (case k4 => assumption); (case kr => assumption); (case k5 => assumption); (case kK => assumption); (case k8 => first | k_extra "ROOMN" | ktr_room); (case k6 => k_is); (case k7 => k_is); (case k9 => exact BindsTo.of_eq rfl); (case kB => exact locs rfl); (case c2 => exact rfl); (case c3 => exact rfl); (case c4 => exact rfl); (case c5 => decide))))
  (k_with "subscriptTail" => ((k_here; (with_reducible show wpAny _ _ (subscriptTail _ _ (Value.ref _) (Value.int _ _)) _ _ _); k_dflt (refine' item_list ?k1 ?k2 ?k3 ?k4 ?_; (case k1 => is_list); (case k4 => assumption); (case k2 => k_extra "OM"); (case k3 => k_extra "OM")))))
  (k_with "subscriptTail" => ((k_here; (with_reducible show wpAny _ _ (subscriptTail _ _ (Value.ref _) (Value.int 1 _)) _ _ _); k_dflt (refine' item_tup1 ?k1 ?_; (case k1 => k_extra "GET")))))
  (k_with "subscriptTail" => ((k_here; (with_reducible show wpAny _ _ (subscriptTail _ _ (Value.ref _) (Value.int 0 _)) _ _ _); k_dflt (refine' item_tup0 ?k1 ?_; (case k1 => k_extra "GET")))))
  (k_with "compareOp Eq ref ref" => ((k_here; (with_reducible show wpAny _ _ (compareOp CmpOp.Eq (Value.ref _) (Value.ref _)) _ _ _); k_dflt (refine' eq_tup ?k1 ?k2 ?k3 ?_; (case k1 => k_extra "GET"); (case k2 => k_extra "GET"); (case k3 => k_units)))))
  (k_with "ite" => (first | (refine ite_pos ?c ?_; (case c => ((try simp only [decide_eq_true_eq, beq_iff_eq, Bool.not_eq_true', decide_eq_false_iff_not, ne_eq]); first | assumption | omega))) | (refine ite_neg ?c ?_; (case c => ((try simp only [decide_eq_true_eq, beq_iff_eq, Bool.not_eq_true', decide_eq_false_iff_not, ne_eq]); first | assumption | omega)))))
  (k_with "execs cons" => (((with_reducible refine wpAny_execs_cons ?_); (try dsimp only); k_fold)))
  (k_with "STEPS" => (((try k_fold); (repeat' (first | walk1 | (k_unfold; (try dsimp only)) | (dsimp only; walk1))); (all_goals (try dsimp only)))))
  (k_with "LV" => (((try dsimp only [WhileStep2]); refine' LeaveM.mk ?k1 ?k2 ?_; (case k1 => with_reducible assumption); (case k2 => with_reducible assumption); intro _ nK; (try dsimp only [List.nil_append, List.cons_append] at nK); revert nK; intro _; (try dsimp only))))
  (k_with "ROOM" => (first | k_extra "ROOMN" | (simp only [recursionLimit, cLine] at *; omega)))
  (k_with "CTX" => (((case B => with_reducible assumption); (case F => with_reducible assumption); (case X => with_reducible assumption); (case T => with_reducible assumption); (case hk => first | exact rfl | assumption); (case hd => k_extra "ROOM"); (case hu => k_extra "ROOM"); (case N => with_reducible assumption))))
  (k_with "KEEP" => (first | with_reducible assumption | exact DerV.keep (by with_reducible assumption) (Fr.keep (by with_reducible assumption)) | exact Sto.keep (by with_reducible assumption) (Fr.keep (by with_reducible assumption)) | exact Bok.keep (by with_reducible assumption) (Fr.keep (by with_reducible assumption)) | exact TupG.keep (by with_reducible assumption) (Fr.keep (by with_reducible assumption)) | exact ⟨_, by k_extra "GET"⟩ | exact ⟨_, _, _, _, rfl, by k_extra "GET"⟩ | assumption))
  (k_with "AFTER" => (((try dsimp only); (try k_sweep))))
  (k_with "call builtin:len" => ((k_here; (with_reducible show wpAny _ _ (call (Value.builtin "len") [Value.ref _]) _ _ _); k_dflt (refine' len_any ?k1 ?k2 ?_; (case k1 => is_list); (case k2 => first | with_reducible assumption | ((try simp only [List.length_append, List.length_cons, List.length_nil, List.length_set]); omega))))))
  (k_with "call builtin:list.append" => ((k_here; (with_reducible show wpAny _ _ (call (Value.builtin _) [Value.ref _, _]) _ _ _); k_dflt (refine' append_any ?k1 ?k2 ?k3 ?_ ?z; (case k1 => k_asm); (case k2 => k_asm); (case k3 => k_upd); (case z => first | with_reducible assumption | ((try simp only [List.length_append, List.length_cons, List.length_nil, List.length_set]); omega)); k_whole); intro _ _ _; (try k_sweep))))
  (k_with "setItem ref int" => ((k_here; (with_reducible show wpAny _ _ (setItem (Value.ref _) (Value.int _ _) _) _ _ _); k_dflt (refine' set_any ?k1 ?k2 ?k3 ?k4 ?k5 ?k6 ?_; (case k1 => k_asm); (case k2 => k_asm); (case k3 => k_upd); (case k4 => k_extra "OM"); (case k5 => first | with_reducible assumption | ((try simp only [List.length_append, List.length_cons, List.length_nil, List.length_set]); omega)); (case k6 => k_extra "OM"); k_whole); intro _ _ _; (try k_sweep))))
  (k_with "CTX2" => (((case B => with_reducible assumption); (case F => with_reducible assumption); (case X => with_reducible assumption); (case T => with_reducible assumption); (case hk => first | exact rfl | assumption); (case hd => k_extra "ROOM"); (case hu => k_extra "ROOM"))))
  (k_with "SEP" => (((repeat' (first | assumption | exact sep_nil | refine sep_app ?_ ?_ | refine sep_cons ?_ ?_)); (all_goals ((repeat' (first | exact nmNil | refine nmCons ?_ ?_)); all_goals first | assumption | k_extra "NEC" | exact Ne.symm (by assumption) | exact News.ne (by with_reducible assumption) (by k_mem) (by k_mem) (ne_typ rfl))))))
  (k_with "SPLIT1" => (first | (refine' News.at0 ?n; (case n => with_reducible assumption)) | (refine' News.at1 ?n; (case n => with_reducible assumption)) | (refine' News.at2 ?n; (case n => with_reducible assumption)) | (refine' News.at3 ?n; (case n => with_reducible assumption)) | (refine' News.at4 ?n; (case n => with_reducible assumption)) | (refine' News.at5 ?n; (case n => with_reducible assumption)) | (refine' News.at6 ?n; (case n => with_reducible assumption))))
  (k_with "pyIter ref" => (refine stopHere ?_))
  (k_with "SEPI" => (((repeat' (first | assumption | exact sep_nil | refine sep_app ?_ ?_ | refine sep_cons ?_ ?_)); (all_goals ((try dsimp only); first | assumption | k_extra "NEC" | exact Ne.symm (by assumption))))))
  (k_with "SUBT" => (first | exact sub_refl | (refine sub_cons ?_; k_extra "SUBT") | (refine sub_right ?_; k_extra "SUBT") | (refine sub_left ?_; k_extra "SUBT")))
  (k_with "MEM" => (first | exact memH | (with_reducible refine List.mem_append_right _ ?_; k_extra "MEM") | (with_reducible refine List.mem_append_left _ ?_; k_extra "MEM") | (with_reducible refine memT ?_; k_extra "MEM")))
  (k_with "SUBT2" => (first | exact sub_refl | (with_reducible refine sub_right ?_; k_extra "SUBT2") | (with_reducible refine sub_left ?_; k_extra "SUBT2") | (with_reducible refine sub_cons ?_; k_extra "SUBT2")))
  (k_with "SUBM" => (((repeat' (first | exact sep_nil | refine sep_app ?_ ?_ | refine sep_cons ?_ ?_)); (all_goals first | k_extra "MEM" | k_extra "SUBT2"))))
  (k_with "SUB" => (((repeat' (first | exact sep_nil | refine sep_app ?_ ?_ | refine sep_cons ?_ ?_)); (all_goals first | k_mem | k_extra "MEM" | k_extra "SUBT2" | (simp only [List.mem_append, List.mem_cons, List.not_mem_nil, true_or, or_true, or_false, false_or]; done) | (intro _ hx9; simp only [hx9, List.mem_append, List.mem_cons, List.not_mem_nil, true_or, or_true, or_false, false_or]; done) | k_extra "SUBT"))))
  (k_with "exec For Name Name cons nil" => ((k_here; (with_unfolding_all refine' For_invVF ?kF ?k1 ?k2 ?_; (case kF => assumption); (case k1 => exact rfl); (case k2 => exact rfl); k_whole))))
  (k_with "exec For Name Call cons nil" => ((k_here; (with_unfolding_all refine' For_invVF ?kF ?k1 ?k2 ?_; (case kF => assumption); (case k1 => exact rfl); (case k2 => exact rfl); k_whole))))
  (k_with "exec For Name Subscript cons nil" => ((k_here; (with_unfolding_all refine' For_invVF ?kF ?k1 ?k2 ?_; (case kF => assumption); (case k1 => exact rfl); (case k2 => exact rfl); k_whole))))
  (k_with "exec For Name Attribute cons nil" => ((k_here; (with_unfolding_all refine' For_invVF ?kF ?k1 ?k2 ?_; (case kF => assumption); (case k1 => exact rfl); (case k2 => exact rfl); k_whole))))
  (k_with "KEEP" => (first | with_reducible assumption | exact DerV.keep (by with_reducible assumption) (Fr.keep (by with_reducible assumption)) | exact Sto.keep (by with_reducible assumption) (Fr.keep (by with_reducible assumption)) | exact Bok.keep (by with_reducible assumption) (Fr.keep (by with_reducible assumption)) | exact TupG.keep (by with_reducible assumption) (Fr.keep (by with_reducible assumption)) | exact ⟨_, by k_extra "GET"⟩ | exact ⟨_, _, _, _, rfl, by k_extra "GET"⟩ | assumption))
  (k_with "call builtin:dict.get" => ((k_here; (with_reducible show wpAny _ _ (call (Value.builtin _) [Value.ref _, Value.str _ _, _]) _ _ _); k_dflt (refine' kdg_get2 (knd := PySem.strKind _ _) ?N ?m ?d ?z (strKind_is _ _ _ _) _ ?v ?_; (case N => k_asm); (case m => k_mem); (case d => k_asm); (case z => k_asm); (case v => with_reducible assumption)); (try dsimp only [Option.getD]))))
  (k_with "setItem ref str" => ((k_here; (with_reducible show wpAny _ _ (setItem (Value.ref _) (Value.str _ _) _) _ _ _); k_dflt (refine' kda_set (knd := PySem.strKind _ _) ?F ?N ?U ?d (strKind_is _ _ _ _) ?z ?_; (case F => k_asm); (case N => k_asm); (case U => k_updF); (case d => k_asm); (case z => rw [sizeLine_eq]; omega)); intro _ _ _ nK; (try dsimp only at nK); revert nK; intro _ _)))
  trivial
theorem atom1_spec {pre post : List (Addr × Obj)} {bk dbk TX AN FL FN : Addr} {vs : List Value} {n1 : Nat} {kvs : List (Str × Value)} {oA : Obj} {t : Str} {tt ti : Tok} {i : Int} {kk : Nat → Tok}
    (N : News h₀ L s.heap (pre ++ ([(TX, listOf vs.toArray n1), (AN, oA)] ++ post))) (sep : ∀ q ∈ pre ++ post, q.1 ∉ [(TX, listOf vs.toArray n1), (AN, oA)].map (·.1)) (hTA : ¬ TX = AN) (hA : oA.IsDictOf (PySem.strKind prog w) kvs) (lo : (AN == sysModules) = false)
    (hbk : s.heap.get? bk = some (instObj 154 dbk)) (hdbk : s.heap.get? dbk = some (dictOf (bkE w.params TX AN FL FN kk) 4)) (nb1 : ¬ bk = TX) (nb2 : ¬ bk = AN) (nd1 : ¬ dbk = TX) (nd2 : ¬ dbk = AN)
    (hv : valueAt kvs t = some (.int i ti)) (hi : 0 ≤ i)
    (ret : ∀ h' tk', Fr h₀ L h' m → News h₀ L h' (pre ++ ([(TX, listOf vs.toArray n1), (AN, oA)] ++ post)) → Q (.int i ti) { s with heap := h', toks := tk' }) :
    wpAny (model prog w) (ktrTop dp un gd cn cs L a ccd cl outer) (call (.ref 88) [.ref bk, .str t tt]) Q E s := by
  have N0 := News.loc N
  have NR := News.others N
  k_dflt (refine' enterM (binds := [(Str.ofString "self", .ref bk), (Str.ofString "text", .str t tt)]) ?k1 ?k2 ?k3 ?k4 ?kr ?ks ?k5 ?kK ?k8 ?k6 ?k7 ?k9 ?kB ?_ ?c2 ?c3 ?c4 ?c5; k_extra "ENTER")
  intro g L' h' tk F' N' B' X' T' hg
  replace hbk := hg _ _ hbk (by simp [nb1, nb2])
  replace hdbk := hg _ _ hdbk (by simp [nd1, nd2])
  (try dsimp only)
  k_extra "STEPS"
  k_extra "LV"
  exact ret _ _ (by with_reducible assumption) (News.join (by assumption))
theorem atom0_spec {pre post : List (Addr × Obj)} {bk dbk TX AN FL FN : Addr} {vs : List Value} {n1 : Nat} {kvs : List (Str × Value)} {oA : Obj} {t : Str} {tt : Tok} {kk : Nat → Tok}
    (N : News h₀ L s.heap (pre ++ ([(TX, listOf vs.toArray n1), (AN, oA)] ++ post))) (sep : ∀ q ∈ pre ++ post, q.1 ∉ [(TX, listOf vs.toArray n1), (AN, oA)].map (·.1)) (hTA : ¬ TX = AN) (hA : oA.IsDictOf (PySem.strKind prog w) kvs) (lo : (AN == sysModules) = false)
    (hbk : s.heap.get? bk = some (instObj 154 dbk)) (hdbk : s.heap.get? dbk = some (dictOf (bkE w.params TX AN FL FN kk) 4)) (nb1 : ¬ bk = TX) (nb2 : ¬ bk = AN) (nd1 : ¬ dbk = TX) (nd2 : ¬ dbk = AN)
    (hv : valueAt kvs t = none) (hl : vs.length ≤ 90000) (hl2 : kvs.length ≤ 90000)
    (ret : ∀ h' tk' t1 t2 oA', oA'.IsDictOf (PySem.strKind prog w) (stored kvs t (.int vs.length t2)) → Fr h₀ L h' m → News h₀ L h' (pre ++ ([(TX, listOf (vs ++ [Value.str t tt]).toArray (n1 + 1)), (AN, oA')] ++ post)) → Q (.int vs.length t1) { s with heap := h', toks := tk' }) :
    wpAny (model prog w) (ktrTop dp un gd cn cs L a ccd cl outer) (call (.ref 88) [.ref bk, .str t tt]) Q E s := by
  have N0 := News.loc N
  have NR := News.others N
  k_dflt (refine' enterM (binds := [(Str.ofString "self", .ref bk), (Str.ofString "text", .str t tt)]) ?k1 ?k2 ?k3 ?k4 ?kr ?ks ?k5 ?kK ?k8 ?k6 ?k7 ?k9 ?kB ?_ ?c2 ?c3 ?c4 ?c5; k_extra "ENTER")
  intro g L' h' tk F' N' B' X' T' hg
  replace hbk := hg _ _ hbk (by simp [nb1, nb2])
  replace hdbk := hg _ _ hdbk (by simp [nd1, nd2])
  (try dsimp only)
  k_extra "STEPS"
  k_extra "LV"
  exact ret _ _ _ _ _ (by assumption) (by with_reducible assumption) (News.join (by assumption))
end
end Part12
section Part13
noncomputable def IsDictT (prog : Program) (w : World) (o : Obj) (xs : List (List Int × Addr × Value)) : Prop :=
  ∃ es ep, o.ExactDict ∧ o.data = .dict es ep ∧ es.toList = xs.map (entryOfKey (tupleKind (intKind prog w))) ∧ (xs.map (·.1)).Nodup
noncomputable def KeysT (h : Heap) (xs : List (List Int × Addr × Value)) : Prop := ∀ x ∈ xs, ∃ c, x.1 = [c.1, c.2] ∧ TupG h (.ref x.2.1) c
theorem ln15 : True := by
  k_with_none
  (k_with "LIT0" => (first | with_reducible assumption | ((first | (with_reducible show @LE.le Nat _ (OfNat.ofNat _) (OfNat.ofNat _)) | (with_reducible show @LT.lt Nat _ (OfNat.ofNat _) (OfNat.ofNat _))); exact Nat.le_of_ble_eq_true rfl)))
  (k_with "LIT1" => (first | with_reducible assumption | (with_reducible refine' Nat.lt_of_lt_of_le ?ha ?hb; (case ha => with_reducible assumption); (case hb => k_extra "LIT0")) | (with_reducible refine' Nat.lt_of_le_of_lt ?ha ?hb; (case ha => with_reducible assumption); (case hb => k_extra "LIT0")) | (with_reducible refine' Nat.le_trans ?ha ?hb; (case ha => with_reducible assumption); (case hb => k_extra "LIT0")) | (with_reducible refine' Nat.le_of_lt (Nat.lt_of_lt_of_le ?ha ?hb); (case ha => with_reducible assumption); (case hb => k_extra "LIT0")) | (with_reducible refine' Nat.lt_of_le_of_lt (Nat.le_of_eq ?ha) ?hb; (case ha => with_reducible assumption); (case hb => k_extra "LIT0")) | (with_reducible refine' Nat.le_trans (Nat.le_of_eq ?ha) ?hb; (case ha => with_reducible assumption); (case hb => k_extra "LIT0"))))
  (k_with "LIT2" => (first | with_reducible assumption | (with_reducible refine' Nat.lt_of_lt_of_le ?ha ?hb; (case ha => with_reducible assumption); (case hb => k_extra "LIT1")) | (with_reducible refine' Nat.lt_of_le_of_lt ?ha ?hb; (case ha => with_reducible assumption); (case hb => k_extra "LIT1")) | (with_reducible refine' Nat.le_trans ?ha ?hb; (case ha => with_reducible assumption); (case hb => k_extra "LIT1")) | (with_reducible refine' Nat.le_of_lt (Nat.lt_of_lt_of_le ?ha ?hb); (case ha => with_reducible assumption); (case hb => k_extra "LIT1")) | (with_reducible refine' Nat.lt_of_le_of_lt (Nat.le_of_eq ?ha) ?hb; (case ha => with_reducible assumption); (case hb => k_extra "LIT1")) | (with_reducible refine' Nat.le_trans (Nat.le_of_eq ?ha) ?hb; (case ha => with_reducible assumption); (case hb => k_extra "LIT1"))))
  (k_with "OM" => (first | with_reducible assumption | with_reducible exact Int.natCast_nonneg _ | with_reducible exact Int.ofNat_lt.mpr (by with_reducible assumption) | with_reducible exact i63 (by k_extra "LIT2") | k_extra "LIT2" | omega))
  (k_with "LTC" => (first | with_reducible assumption | (refine' Nat.lt_trans ?ha ?hb; (case ha => with_reducible assumption); (case hb => k_extra "LTC"))))
  (k_with "NEC" => ((refine neN ?_; (try dsimp only); first | (refine' Nat.ne_of_lt ?hc; (case hc => k_extra "LTC")) | (refine' Nat.ne_of_gt ?hc; (case hc => k_extra "LTC")) | omega)))
  (k_with "ROOMN" => (first | (refine' roomN ?ha (Nat.add_assoc _ _ _) ?hb; (case ha => with_reducible assumption); (case hb => exact rfl)) | (refine' roomN ?ha rfl ?hb; (case ha => with_reducible assumption); (case hb => exact rfl)) | (refine' roomN ?ha ((Nat.add_assoc _ _ _).trans (Nat.add_assoc _ _ _)) ?hb; (case ha => with_reducible assumption); (case hb => exact rfl)) | exact Nat.lt_of_le_of_lt (Nat.le_add_right _ _) (by with_reducible assumption)))
  (k_with "MKUNITS" => (first | k_extra "ROOMN" | ktr_units))
  (k_with "MKNE" => (first | k_extra "NEC" | ((try dsimp only); assumption) | ((try dsimp only); exact Ne.symm (by assumption)) | ((try dsimp only); exact News.ne (by with_reducible assumption) (by k_mem) (by k_mem) (ne_typ rfl))))
  (k_with "MKALL" => (first | assumption | exact List.forall_mem_nil _ | (refine' List.forall_mem_cons.mpr ⟨?a, ?b⟩; (case a => k_ne); (case b => k_all))))
  (k_with "GET" => (first | exact Fr.keep (by with_reducible assumption) _ _ (by with_reducible assumption) | exact News.get (by with_reducible assumption) (by k_mem)))
  (k_with "MKINST" => (exact instG (by k_extra "GET") (by k_extra "GET")))
  (k_with "MISLIST" => (exact isListG (by k_extra "GET")))
  (k_with "ENTER" => (((case ks => assumption); (case k1 => assumption); (case k2 => assumption); (case k3 => assumption); (case k4 => assumption); (case kr => assumption); (case k5 => assumption); (case kK => assumption); (case k8 => first | k_extra "ROOMN" | ktr_room); (case k6 => k_is); (case k7 => k_is); (case k9 => exact BindsTo.of_eq rfl); (case kB => exact locs rfl); (case c2 => exact rfl); (case c3 => exact rfl); (case c4 => exact rfl); (case c5 => decide))))
  (k_with "subscriptTail" => ((k_here; (with_reducible show wpAny _ _ (subscriptTail _ _ (Value.ref _) (Value.int _ _)) _ _ _); k_dflt (refine' item_list ?k1 ?k2 ?k3 ?k4 ?_; (case k1 => is_list); (case k4 => assumption); (case k2 => k_extra "OM"); (case k3 => k_extra "OM")))))
  (k_with "subscriptTail" => ((k_here; (with_reducible show wpAny _ _ (subscriptTail _ _ (Value.ref _) (Value.int 1 _)) _ _ _); k_dflt (refine' item_tup1 ?k1 ?_; (case k1 => k_extra "GET")))))
  (k_with "subscriptTail" => ((k_here; (with_reducible show wpAny _ _ (subscriptTail _ _ (Value.ref _) (Value.int 0 _)) _ _ _); k_dflt (refine' item_tup0 ?k1 ?_; (case k1 => k_extra "GET")))))
  (k_with "compareOp Eq ref ref" => ((k_here; (with_reducible show wpAny _ _ (compareOp CmpOp.Eq (Value.ref _) (Value.ref _)) _ _ _); k_dflt (refine' eq_tup ?k1 ?k2 ?k3 ?_; (case k1 => k_extra "GET"); (case k2 => k_extra "GET"); (case k3 => k_units)))))
  (k_with "ite" => (first | (refine ite_pos ?c ?_; (case c => ((try simp only [decide_eq_true_eq, beq_iff_eq, Bool.not_eq_true', decide_eq_false_iff_not, ne_eq]); first | assumption | omega))) | (refine ite_neg ?c ?_; (case c => ((try simp only [decide_eq_true_eq, beq_iff_eq, Bool.not_eq_true', decide_eq_false_iff_not, ne_eq]); first | assumption | omega)))))
  (k_with "execs cons" => (((with_reducible refine wpAny_execs_cons ?_); (try dsimp only); k_fold)))
  (k_with "STEPS" => (((try k_fold); (repeat' (first | walk1 | (k_unfold; (try dsimp only)) | (dsimp only; walk1))); (all_goals (try dsimp only)))))
  (k_with "LV" => (((try dsimp only [WhileStep2]); refine' LeaveM.mk ?k1 ?k2 ?_; (case k1 => with_reducible assumption); (case k2 => with_reducible assumption); intro _ nK; (try dsimp only [List.nil_append, List.cons_append] at nK); revert nK; intro _; (try dsimp only))))
  (k_with "ROOM" => (first | k_extra "ROOMN" | (simp only [recursionLimit, cLine] at *; omega)))
  (k_with "CTX" => (((case B => with_reducible assumption); (case F => with_reducible assumption); (case X => with_reducible assumption); (case T => with_reducible assumption); (case hk => first | exact rfl | assumption); (case hd => k_extra "ROOM"); (case hu => k_extra "ROOM"); (case N => with_reducible assumption))))
  (k_with "KEEP" => (first | with_reducible assumption | exact DerV.keep (by with_reducible assumption) (Fr.keep (by with_reducible assumption)) | exact Sto.keep (by with_reducible assumption) (Fr.keep (by with_reducible assumption)) | exact Bok.keep (by with_reducible assumption) (Fr.keep (by with_reducible assumption)) | exact TupG.keep (by with_reducible assumption) (Fr.keep (by with_reducible assumption)) | exact ⟨_, by k_extra "GET"⟩ | exact ⟨_, _, _, _, rfl, by k_extra "GET"⟩ | assumption))
  (k_with "AFTER" => (((try dsimp only); (try k_sweep))))
  (k_with "call builtin:len" => ((k_here; (with_reducible show wpAny _ _ (call (Value.builtin "len") [Value.ref _]) _ _ _); k_dflt (refine' len_any ?k1 ?k2 ?_; (case k1 => is_list); (case k2 => first | with_reducible assumption | ((try simp only [List.length_append, List.length_cons, List.length_nil, List.length_set]); omega))))))
  (k_with "call builtin:list.append" => ((k_here; (with_reducible show wpAny _ _ (call (Value.builtin _) [Value.ref _, _]) _ _ _); k_dflt (refine' append_any ?k1 ?k2 ?k3 ?_ ?z; (case k1 => k_asm); (case k2 => k_asm); (case k3 => k_upd); (case z => first | with_reducible assumption | ((try simp only [List.length_append, List.length_cons, List.length_nil, List.length_set]); omega)); k_whole); intro _ _ _; (try k_sweep))))
  (k_with "setItem ref int" => ((k_here; (with_reducible show wpAny _ _ (setItem (Value.ref _) (Value.int _ _) _) _ _ _); k_dflt (refine' set_any ?k1 ?k2 ?k3 ?k4 ?k5 ?k6 ?_; (case k1 => k_asm); (case k2 => k_asm); (case k3 => k_upd); (case k4 => k_extra "OM"); (case k5 => first | with_reducible assumption | ((try simp only [List.length_append, List.length_cons, List.length_nil, List.length_set]); omega)); (case k6 => k_extra "OM"); k_whole); intro _ _ _; (try k_sweep))))
  (k_with "CTX2" => (((case B => with_reducible assumption); (case F => with_reducible assumption); (case X => with_reducible assumption); (case T => with_reducible assumption); (case hk => first | exact rfl | assumption); (case hd => k_extra "ROOM"); (case hu => k_extra "ROOM"))))
  (k_with "SEP" => (((repeat' (first | assumption | exact sep_nil | refine sep_app ?_ ?_ | refine sep_cons ?_ ?_)); (all_goals ((repeat' (first | exact nmNil | refine nmCons ?_ ?_)); all_goals first | assumption | k_extra "NEC" | exact Ne.symm (by assumption) | exact News.ne (by with_reducible assumption) (by k_mem) (by k_mem) (ne_typ rfl))))))
  (k_with "SPLIT1" => (first | (refine' News.at0 ?n; (case n => with_reducible assumption)) | (refine' News.at1 ?n; (case n => with_reducible assumption)) | (refine' News.at2 ?n; (case n => with_reducible assumption)) | (refine' News.at3 ?n; (case n => with_reducible assumption)) | (refine' News.at4 ?n; (case n => with_reducible assumption)) | (refine' News.at5 ?n; (case n => with_reducible assumption)) | (refine' News.at6 ?n; (case n => with_reducible assumption))))
  (k_with "pyIter ref" => (refine stopHere ?_))
  (k_with "SEPI" => (((repeat' (first | assumption | exact sep_nil | refine sep_app ?_ ?_ | refine sep_cons ?_ ?_)); (all_goals ((try dsimp only); first | assumption | k_extra "NEC" | exact Ne.symm (by assumption))))))
  (k_with "SUBT" => (first | exact sub_refl | (refine sub_cons ?_; k_extra "SUBT") | (refine sub_right ?_; k_extra "SUBT") | (refine sub_left ?_; k_extra "SUBT")))
  (k_with "MEM" => (first | exact memH | (with_reducible refine List.mem_append_right _ ?_; k_extra "MEM") | (with_reducible refine List.mem_append_left _ ?_; k_extra "MEM") | (with_reducible refine memT ?_; k_extra "MEM")))
  (k_with "SUBT2" => (first | exact sub_refl | (with_reducible refine sub_right ?_; k_extra "SUBT2") | (with_reducible refine sub_left ?_; k_extra "SUBT2") | (with_reducible refine sub_cons ?_; k_extra "SUBT2")))
  (k_with "SUBM" => (((repeat' (first | exact sep_nil | refine sep_app ?_ ?_ | refine sep_cons ?_ ?_)); (all_goals first | k_extra "MEM" | k_extra "SUBT2"))))
  (k_with "SUB" => (((repeat' (first | exact sep_nil | refine sep_app ?_ ?_ | refine sep_cons ?_ ?_)); (all_goals first | k_mem | k_extra "MEM" | k_extra "SUBT2" | (simp only [List.mem_append, List.mem_cons, List.not_mem_nil, true_or, or_true, or_false, false_or]; done) | (intro _ hx9; simp only [hx9, List.mem_append, List.mem_cons, List.not_mem_nil, true_or, or_true, or_false, false_or]; done) | k_extra "SUBT"))))
  (k_with "exec For Name Name cons nil" => ((k_here; (with_unfolding_all refine' For_invVF ?kF ?k1 ?k2 ?_; (case kF => assumption); (case k1 => exact rfl); (case k2 => exact rfl); k_whole))))
  (k_with "exec For Name Call cons nil" => ((k_here; (with_unfolding_all refine' For_invVF ?kF ?k1 ?k2 ?_; (case kF => assumption); (case k1 => exact rfl); (case k2 => exact rfl); k_whole))))
  (k_with "exec For Name Subscript cons nil" => ((k_here; (with_unfolding_all refine' For_invVF ?kF ?k1 ?k2 ?_; (case kF => assumption); (case k1 => exact rfl); (case k2 => exact rfl); k_whole))))
  (k_with "exec For Name Attribute cons nil" => ((k_here; (with_unfolding_all refine' For_invVF ?kF ?k1 ?k2 ?_; (case kF => assumption); (case k1 => exact rfl); (case k2 => exact rfl); k_whole))))
  (k_with "KEEP" => (first | with_reducible assumption | exact DerV.keep (by with_reducible assumption) (Fr.keep (by with_reducible assumption)) | exact Sto.keep (by with_reducible assumption) (Fr.keep (by with_reducible assumption)) | exact Bok.keep (by with_reducible assumption) (Fr.keep (by with_reducible assumption)) | exact TupG.keep (by with_reducible assumption) (Fr.keep (by with_reducible assumption)) | exact ⟨_, by k_extra "GET"⟩ | exact ⟨_, _, _, _, rfl, by k_extra "GET"⟩ | assumption))
  trivial
theorem KeysT.keep {g h : Heap} {xs : List (List Int × Addr × Value)} (k : KeysT g xs) (t : ∀ b o, g.get? b = some o → h.get? b = some o) : KeysT h xs := fun x hx => by
  obtain ⟨c, e, p⟩ := k x hx
  exact ⟨c, e, p.keep t⟩
theorem keyT {prog : Program} {w : World} {h : Heap} {a : Addr} {c : Int × Int} {t1 t2 n : Nat} (e : h.get? a = some (tupO c t1 t2 n)) : (tupleKind (intKind prog w)).is h [c.1, c.2] a :=
  ⟨_, _, _, e, rfl, rfl, .cons (intKind_is _ _ _ _) (.cons (intKind_is _ _ _ _) .nil)⟩
section
variable {prog : Program} {w : World} {A : Around} {E : Value → Shared → Prop} {s : Shared} {h₀ : Heap} {L d a : Addr} {m : Str → Option Value} {news : List (Addr × Obj)} {g : Obj → List (Addr × Obj)} {o : Obj} {xs : List (List Int × Addr × Value)} {c : Int × Int} {t1 t2 n : Nat} {v dflt : Value}
theorem tdh_dict (N : News h₀ L s.heap news) (hp : (d, o) ∈ news) (hd : IsDictT prog w o xs) (hk : KeysT s.heap xs) : s.heap.DictOfH (tupleKind (intKind prog w)) d xs := by
  obtain ⟨es, ep, a, b, c, e⟩ := hd
  exact ⟨o, es, ep, (N _ hp).1, a, b, c, fun x hx => by
    refine Classical.byContradiction fun nGo => ?_
    obtain ⟨c, e, p⟩ := hk x hx
    obtain ⟨a, t1, t2, n, e1, e2⟩ := p
    refine nGo ?_; clear nGo
    cases e1
    rw [e]
    exact keyT e2, e⟩
theorem tdh_method {pl : Sem Bool} {Q : Value × List Value → Shared → Prop} (N : News h₀ L s.heap news) (hp : (d, o) ∈ news) (hd : IsDictT prog w o xs) (h : Q (.builtin "dict.get", [.ref d]) s) : wpAny (model prog w) A (getMethod (.ref d) "get" pl) Q E s := by
  obtain ⟨es, ep, a, b, c, e⟩ := hd
  exact getMethod_builtin ⟨o, (N _ hp).1, a.1⟩ PySem.F.plainAttrs_dict PySem.F.slot_dict_get PySem.F.type_dict_get (fun b e => by injection e with e; subst e; exact ⟨o, (N _ hp).1, a.2.1⟩) h
theorem tdh_get2 {Q : Value → Shared → Prop} {x : Option (Addr × Value)} (N : News h₀ L s.heap news) (hp : (d, o) ∈ news) (hd : IsDictT prog w o xs) (lo : (d == sysModules) = false) (hu : A.units + 64 < cLine) (hk : KeysT s.heap xs) (hkey : s.heap.get? a = some (tupO c t1 t2 n)) (hl : atKey xs [c.1, c.2] = x) (h : Q ((x.map (·.2)).getD dflt) { s with toks := s.toks + 3 }) :
    wpAny (model prog w) A (call (.builtin "dict.get") [.ref d, .ref a, dflt]) Q E s :=
  have hD := tdh_dict (prog := prog) (w := w) N hp hd hk
  call_meetsIn PySem.F.slot_dict_get hD.typeIs PySem.F.entry_dict_get (PySem.F.args_dict_get_3 _ _ _) (meetsH_dict_get_default _ d a lo dflt) ⟨tupleKind_room_in1 (by simp only [cLine] at *; omega), _, xs, keyT hkey, hD, by rw [hl]; exact h⟩
theorem tdh_set {Q : Unit → Shared → Prop} (F : Fr h₀ L s.heap m) (N : News h₀ L s.heap news) (U : UpdF d o news g) (hd : IsDictT prog w o xs) (hu : A.units + 64 < cLine) (hk : KeysT s.heap xs) (hkey : s.heap.get? a = some (tupO c t1 t2 n)) (hl : atKey xs [c.1, c.2] = none) (hsz : xs.length ≤ sizeLine)
    (h : ∀ h' o', Fr h₀ L h' m → News h₀ L h' (g o') → IsDictT prog w o' (xs ++ [([c.1, c.2], a, v)]) → Q () { s with heap := h', toks := s.toks + 3 }) : wpAny (model prog w) A (setItem (.ref d) (.ref a) v) Q E s := by
  obtain ⟨pre, post, rfl, hg, p, q⟩ := U.split
  have hm := N (d, o) (List.mem_append_right _ (.head _))
  have hD := tdh_dict (prog := prog) (w := w) N (List.mem_append_right _ (.head _)) hd hk
  refine wpAny_setItem_heap (hsz := hsz) (tupleKind_room_in1 (by simp only [cLine] at *; omega)) (keyT hkey) hD fun h' hmm hs => ?_
  rw [storedH_new hl] at hmm
  obtain ⟨o', es, ep, ho', x1, x2, x3, x4, x5⟩ := hmm
  exact h h' o' (F.change hs hm.2.1 hm.2.2) (hg o' ▸ N.setIn p q hs ho') ⟨es, ep, x1, x2, x3, x5⟩
end
section
variable {prog : Program} {w : World} {p : Program} {loose : List Str} {mean : ExcName → Option Value} {mg mb : Str → Option Value} {dp un : Nat} {gd : Option (List Code)} {cn : Str} {cs : Scope} {a : Addr} {ccd : Value} {cl : List (Str × Addr)} {outer : List Env} {A₀ : Around} {base h₀ : Heap} {L : Addr} {m : Str → Option Value} {s : Shared} {Q E : Value → Shared → Prop}
  (B : Below A₀ base outer h₀) (F : Fr h₀ L s.heap m) (X : (Mine.hd.heap_1 w.params).In h₀) (T : Top p loose mean mg mb h₀) (hk : cs.kind = .function) (hd : dp + 5 < recursionLimit) (hu : un + 100 < cLine)
include B F X T hk hd hu
theorem ln16 : True := by
  (k_with "KEYS" => (first | with_reducible assumption | exact KeysT.keep (by with_reducible assumption) (Fr.keep (by with_reducible assumption))))
  (k_with "getMethod ref" => ((k_here; (with_reducible show wpAny _ _ (getMethod (Value.ref _) (Str.ofString "get") _) _ _ _); k_dflt (refine' tdh_method ?N ?m ?d ?_; (case N => k_asm); (case m => k_mem); (case d => k_asm)))))
  (k_with "call builtin:dict.get" => ((k_here; (with_reducible show wpAny _ _ (call (Value.builtin _) [Value.ref _, Value.ref _, _]) _ _ _); k_dflt (refine' tdh_get2 ?N ?m ?d ?z ?u ?a ?k ?v ?_; (case N => k_asm); (case m => k_mem); (case d => k_asm); (case z => k_asm); (case u => k_units); (case a => k_extra "KEYS"); (case k => k_extra "GET"); (case v => with_reducible assumption)); (try dsimp only [Option.map, Option.getD]))))
  (k_with "setItem ref ref" => ((k_here; (with_reducible show wpAny _ _ (setItem (Value.ref _) (Value.ref _) _) _ _ _); k_dflt (refine' tdh_set ?F ?N ?U ?d ?u ?a ?k ?v ?z ?_; (case F => k_asm); (case N => k_asm); (case U => k_updF); (case d => k_asm); (case u => k_units); (case a => k_extra "KEYS"); (case k => k_extra "GET"); (case v => with_reducible assumption); (case z => rw [sizeLine_eq]; omega)); intro _ _ _ nK; (try dsimp only at nK); revert nK; intro _ _)))
  trivial
theorem functor0_spec {pre post : List (Addr × Obj)} {bk dbk TX AN FL FN : Addr} {vs : List Value} {n1 : Nat} {xs : List (List Int × Addr × Value)} {oF : Obj} {c : Int × Int} {ta tb : Tok} {kk : Nat → Tok}
    (N : News h₀ L s.heap (pre ++ ([(FL, listOf vs.toArray n1), (FN, oF)] ++ post))) (sep : ∀ q ∈ pre ++ post, q.1 ∉ [(FL, listOf vs.toArray n1), (FN, oF)].map (·.1)) (hTA : ¬ FL = FN) (hA : IsDictT prog w oF xs) (lo : (FN == sysModules) = false)
    (hks : KeysT s.heap xs) (hne : ∀ x ∈ xs, ¬ x.2.1 = FL ∧ ¬ x.2.1 = FN)
    (hbk : s.heap.get? bk = some (instObj 154 dbk)) (hdbk : s.heap.get? dbk = some (dictOf (bkE w.params TX AN FL FN kk) 4)) (nb1 : ¬ bk = FL) (nb2 : ¬ bk = FN) (nd1 : ¬ dbk = FL) (nd2 : ¬ dbk = FN)
    (hv : atKey xs [c.1, c.2] = none) (hl : vs.length ≤ 90000) (hl2 : xs.length ≤ 90000)
    (ret : ∀ h' tk' t1 t2 a' t3 t4 oF', IsDictT prog w oF' (xs ++ [([c.1, c.2], a', .int vs.length t2)]) → Fr h₀ L h' m → News h₀ L h' (pre ++ (((a', tupO c t3 t4 0) :: [(FL, listOf (vs ++ [Value.ref a']).toArray (n1 + 1)), (FN, oF')]) ++ post)) → Q (.int vs.length t1) { s with heap := h', toks := tk' }) :
    wpAny (model prog w) (ktrTop dp un gd cn cs L a ccd cl outer) (call (.ref 102) [.ref bk, .int c.1 ta, .int c.2 tb]) Q E s := by
  have N0 := News.loc N
  have NR := News.others N
  k_dflt (refine' enterM (binds := [(Str.ofString "self", .ref bk), (Str.ofString "atom", .int c.1 ta), (Str.ofString "arity", .int c.2 tb)]) ?k1 ?k2 ?k3 ?k4 ?kr ?ks ?k5 ?kK ?k8 ?k6 ?k7 ?k9 ?kB ?_ ?c2 ?c3 ?c4 ?c5; k_extra "ENTER")
  intro g L' h' tk F' N' B' X' T' hg
  replace hbk := hg _ _ hbk (by simp [nb1, nb2])
  replace hdbk := hg _ _ hdbk (by simp [nd1, nd2])
  have hkg : KeysT g xs := fun x hx => by
    obtain ⟨c, e, a, t1, t2, n, e1, e2⟩ := hks x hx
    obtain ⟨q1, q2⟩ := hne x hx
    cases e1
    exact ⟨c, e, _, _, _, _, rfl, hg _ _ e2 (by simp [q1, q2])⟩
  clear hks
  (try dsimp only)
  k_extra "STEPS"
  k_extra "LV"
  exact ret _ _ _ _ _ _ _ _ (by assumption) (by with_reducible assumption) (News.join (by assumption))
theorem functor1_spec {pre post : List (Addr × Obj)} {bk dbk TX AN FL FN : Addr} {vs : List Value} {n1 : Nat} {xs : List (List Int × Addr × Value)} {oF : Obj} {c : Int × Int} {ta tb ti : Tok} {i : Int} {kz : Addr} {kk : Nat → Tok}
    (N : News h₀ L s.heap (pre ++ ([(FL, listOf vs.toArray n1), (FN, oF)] ++ post))) (sep : ∀ q ∈ pre ++ post, q.1 ∉ [(FL, listOf vs.toArray n1), (FN, oF)].map (·.1)) (hTA : ¬ FL = FN) (hA : IsDictT prog w oF xs) (lo : (FN == sysModules) = false)
    (hks : KeysT s.heap xs) (hne : ∀ x ∈ xs, ¬ x.2.1 = FL ∧ ¬ x.2.1 = FN)
    (hbk : s.heap.get? bk = some (instObj 154 dbk)) (hdbk : s.heap.get? dbk = some (dictOf (bkE w.params TX AN FL FN kk) 4)) (nb1 : ¬ bk = FL) (nb2 : ¬ bk = FN) (nd1 : ¬ dbk = FL) (nd2 : ¬ dbk = FN)
    (hv : atKey xs [c.1, c.2] = some (kz, .int i ti)) (hi : 0 ≤ i)
    (ret : ∀ h' tk', Fr h₀ L h' m → News h₀ L h' (pre ++ ([(FL, listOf vs.toArray n1), (FN, oF)] ++ post)) → Q (.int i ti) { s with heap := h', toks := tk' }) :
    wpAny (model prog w) (ktrTop dp un gd cn cs L a ccd cl outer) (call (.ref 102) [.ref bk, .int c.1 ta, .int c.2 tb]) Q E s := by
  have N0 := News.loc N
  have NR := News.others N
  k_dflt (refine' enterM (binds := [(Str.ofString "self", .ref bk), (Str.ofString "atom", .int c.1 ta), (Str.ofString "arity", .int c.2 tb)]) ?k1 ?k2 ?k3 ?k4 ?kr ?ks ?k5 ?kK ?k8 ?k6 ?k7 ?k9 ?kB ?_ ?c2 ?c3 ?c4 ?c5; k_extra "ENTER")
  intro g L' h' tk F' N' B' X' T' hg
  replace hbk := hg _ _ hbk (by simp [nb1, nb2])
  replace hdbk := hg _ _ hdbk (by simp [nd1, nd2])
  have hkg : KeysT g xs := fun x hx => by
    obtain ⟨c, e, a, t1, t2, n, e1, e2⟩ := hks x hx
    obtain ⟨q1, q2⟩ := hne x hx
    cases e1
    exact ⟨c, e, _, _, _, _, rfl, hg _ _ e2 (by simp [q1, q2])⟩
  clear hks
  (try dsimp only)
  k_extra "STEPS"
  k_extra "LV"
  rename News _ _ _ _ => N9
  exact ret _ _ (by with_reducible assumption) (News.join (News.sub N9 (fun _ h => .tail _ h)))
end
end Part13
section Part14
section
variable {prog : Program} {w : World} {A : Around} {E : Value → Shared → Prop} {Q : Flow → Shared → Prop} {s : Shared} {env : Env} {h₀ : Heap} {x : Str} {body : List Stmt}
/-- over a tuple that stands in the ground, or in the ledger as it is -/
theorem ln17 : True := by
  k_with_none
  (k_with "LIT0" => (first | with_reducible assumption | ((first | (with_reducible show @LE.le Nat _ (OfNat.ofNat _) (OfNat.ofNat _)) | (with_reducible show @LT.lt Nat _ (OfNat.ofNat _) (OfNat.ofNat _))); exact Nat.le_of_ble_eq_true rfl)))
  (k_with "LIT1" => (first | with_reducible assumption | (with_reducible refine' Nat.lt_of_lt_of_le ?ha ?hb; (case ha => with_reducible assumption); (case hb => k_extra "LIT0")) | (with_reducible refine' Nat.lt_of_le_of_lt ?ha ?hb; (case ha => with_reducible assumption); (case hb => k_extra "LIT0")) | (with_reducible refine' Nat.le_trans ?ha ?hb; (case ha => with_reducible assumption); (case hb => k_extra "LIT0")) | (with_reducible refine' Nat.le_of_lt (Nat.lt_of_lt_of_le ?ha ?hb); (case ha => with_reducible assumption); (case hb => k_extra "LIT0")) | (with_reducible refine' Nat.lt_of_le_of_lt (Nat.le_of_eq ?ha) ?hb; (case ha => with_reducible assumption); (case hb => k_extra "LIT0")) | (with_reducible refine' Nat.le_trans (Nat.le_of_eq ?ha) ?hb; (case ha => with_reducible assumption); (case hb => k_extra "LIT0"))))
  (k_with "LIT2" => (first | with_reducible assumption | (with_reducible refine' Nat.lt_of_lt_of_le ?ha ?hb; (case ha => with_reducible assumption); (case hb => k_extra "LIT1")) | (with_reducible refine' Nat.lt_of_le_of_lt ?ha ?hb; (case ha => with_reducible assumption); (case hb => k_extra "LIT1")) | (with_reducible refine' Nat.le_trans ?ha ?hb; (case ha => with_reducible assumption); (case hb => k_extra "LIT1")) | (with_reducible refine' Nat.le_of_lt (Nat.lt_of_lt_of_le ?ha ?hb); (case ha => with_reducible assumption); (case hb => k_extra "LIT1")) | (with_reducible refine' Nat.lt_of_le_of_lt (Nat.le_of_eq ?ha) ?hb; (case ha => with_reducible assumption); (case hb => k_extra "LIT1")) | (with_reducible refine' Nat.le_trans (Nat.le_of_eq ?ha) ?hb; (case ha => with_reducible assumption); (case hb => k_extra "LIT1"))))
  (k_with "OM" => (first | with_reducible assumption | with_reducible exact Int.natCast_nonneg _ | with_reducible exact Int.ofNat_lt.mpr (by with_reducible assumption) | with_reducible exact i63 (by k_extra "LIT2") | k_extra "LIT2" | omega))
  (k_with "LTC" => (first | with_reducible assumption | (refine' Nat.lt_trans ?ha ?hb; (case ha => with_reducible assumption); (case hb => k_extra "LTC"))))
  (k_with "NEC" => ((refine neN ?_; (try dsimp only); first | (refine' Nat.ne_of_lt ?hc; (case hc => k_extra "LTC")) | (refine' Nat.ne_of_gt ?hc; (case hc => k_extra "LTC")) | omega)))
  (k_with "ROOMN" => (first | (refine' roomN ?ha (Nat.add_assoc _ _ _) ?hb; (case ha => with_reducible assumption); (case hb => exact rfl)) | (refine' roomN ?ha rfl ?hb; (case ha => with_reducible assumption); (case hb => exact rfl)) | (refine' roomN ?ha ((Nat.add_assoc _ _ _).trans (Nat.add_assoc _ _ _)) ?hb; (case ha => with_reducible assumption); (case hb => exact rfl)) | exact Nat.lt_of_le_of_lt (Nat.le_add_right _ _) (by with_reducible assumption)))
  (k_with "MKUNITS" => (first | k_extra "ROOMN" | ktr_units))
  (k_with "MKNE" => (first | k_extra "NEC" | ((try dsimp only); assumption) | ((try dsimp only); exact Ne.symm (by assumption)) | ((try dsimp only); exact News.ne (by with_reducible assumption) (by k_mem) (by k_mem) (ne_typ rfl))))
  (k_with "MKALL" => (first | assumption | exact List.forall_mem_nil _ | (refine' List.forall_mem_cons.mpr ⟨?a, ?b⟩; (case a => k_ne); (case b => k_all))))
  (k_with "GET" => (first | exact Fr.keep (by with_reducible assumption) _ _ (by with_reducible assumption) | exact News.get (by with_reducible assumption) (by k_mem)))
  (k_with "MKINST" => (exact instG (by k_extra "GET") (by k_extra "GET")))
  (k_with "MISLIST" => (exact isListG (by k_extra "GET")))
  (k_with "ENTER" => (((case ks => assumption); (case k1 => assumption); (case k2 => assumption); (case k3 => assumption); (case k4 => assumption); (case kr => assumption); (case k5 => assumption); (case kK => assumption); (case k8 => first | k_extra "ROOMN" | ktr_room); (case k6 => k_is); (case k7 => k_is); (case k9 => exact BindsTo.of_eq rfl); (case kB => exact locs rfl); (case c2 => exact rfl); (case c3 => exact rfl); (case c4 => exact rfl); (case c5 => decide))))
  (k_with "subscriptTail" => ((k_here; (with_reducible show wpAny _ _ (subscriptTail _ _ (Value.ref _) (Value.int _ _)) _ _ _); k_dflt (refine' item_list ?k1 ?k2 ?k3 ?k4 ?_; (case k1 => is_list); (case k4 => assumption); (case k2 => k_extra "OM"); (case k3 => k_extra "OM")))))
  (k_with "subscriptTail" => ((k_here; (with_reducible show wpAny _ _ (subscriptTail _ _ (Value.ref _) (Value.int 1 _)) _ _ _); k_dflt (refine' item_tup1 ?k1 ?_; (case k1 => k_extra "GET")))))
  (k_with "subscriptTail" => ((k_here; (with_reducible show wpAny _ _ (subscriptTail _ _ (Value.ref _) (Value.int 0 _)) _ _ _); k_dflt (refine' item_tup0 ?k1 ?_; (case k1 => k_extra "GET")))))
  (k_with "compareOp Eq ref ref" => ((k_here; (with_reducible show wpAny _ _ (compareOp CmpOp.Eq (Value.ref _) (Value.ref _)) _ _ _); k_dflt (refine' eq_tup ?k1 ?k2 ?k3 ?_; (case k1 => k_extra "GET"); (case k2 => k_extra "GET"); (case k3 => k_units)))))
  (k_with "ite" => (first | (refine ite_pos ?c ?_; (case c => ((try simp only [decide_eq_true_eq, beq_iff_eq, Bool.not_eq_true', decide_eq_false_iff_not, ne_eq]); first | assumption | omega))) | (refine ite_neg ?c ?_; (case c => ((try simp only [decide_eq_true_eq, beq_iff_eq, Bool.not_eq_true', decide_eq_false_iff_not, ne_eq]); first | assumption | omega)))))
  (k_with "execs cons" => (((with_reducible refine wpAny_execs_cons ?_); (try dsimp only); k_fold)))
  (k_with "STEPS" => (((try k_fold); (repeat' (first | walk1 | (k_unfold; (try dsimp only)) | (dsimp only; walk1))); (all_goals (try dsimp only)))))
  (k_with "LV" => (((try dsimp only [WhileStep2]); refine' LeaveM.mk ?k1 ?k2 ?_; (case k1 => with_reducible assumption); (case k2 => with_reducible assumption); intro _ nK; (try dsimp only [List.nil_append, List.cons_append] at nK); revert nK; intro _; (try dsimp only))))
  (k_with "ROOM" => (first | k_extra "ROOMN" | (simp only [recursionLimit, cLine] at *; omega)))
  (k_with "CTX" => (((case B => with_reducible assumption); (case F => with_reducible assumption); (case X => with_reducible assumption); (case T => with_reducible assumption); (case hk => first | exact rfl | assumption); (case hd => k_extra "ROOM"); (case hu => k_extra "ROOM"); (case N => with_reducible assumption))))
  (k_with "KEEP" => (first | with_reducible assumption | exact DerV.keep (by with_reducible assumption) (Fr.keep (by with_reducible assumption)) | exact Sto.keep (by with_reducible assumption) (Fr.keep (by with_reducible assumption)) | exact Bok.keep (by with_reducible assumption) (Fr.keep (by with_reducible assumption)) | exact TupG.keep (by with_reducible assumption) (Fr.keep (by with_reducible assumption)) | exact ⟨_, by k_extra "GET"⟩ | exact ⟨_, _, _, _, rfl, by k_extra "GET"⟩ | assumption))
  (k_with "AFTER" => (((try dsimp only); (try k_sweep))))
  (k_with "call builtin:len" => ((k_here; (with_reducible show wpAny _ _ (call (Value.builtin "len") [Value.ref _]) _ _ _); k_dflt (refine' len_any ?k1 ?k2 ?_; (case k1 => is_list); (case k2 => first | with_reducible assumption | ((try simp only [List.length_append, List.length_cons, List.length_nil, List.length_set]); omega))))))
  (k_with "call builtin:list.append" => ((k_here; (with_reducible show wpAny _ _ (call (Value.builtin _) [Value.ref _, _]) _ _ _); k_dflt (refine' append_any ?k1 ?k2 ?k3 ?_ ?z; (case k1 => k_asm); (case k2 => k_asm); (case k3 => k_upd); (case z => first | with_reducible assumption | ((try simp only [List.length_append, List.length_cons, List.length_nil, List.length_set]); omega)); k_whole); intro _ _ _; (try k_sweep))))
  (k_with "setItem ref int" => ((k_here; (with_reducible show wpAny _ _ (setItem (Value.ref _) (Value.int _ _) _) _ _ _); k_dflt (refine' set_any ?k1 ?k2 ?k3 ?k4 ?k5 ?k6 ?_; (case k1 => k_asm); (case k2 => k_asm); (case k3 => k_upd); (case k4 => k_extra "OM"); (case k5 => first | with_reducible assumption | ((try simp only [List.length_append, List.length_cons, List.length_nil, List.length_set]); omega)); (case k6 => k_extra "OM"); k_whole); intro _ _ _; (try k_sweep))))
  (k_with "CTX2" => (((case B => with_reducible assumption); (case F => with_reducible assumption); (case X => with_reducible assumption); (case T => with_reducible assumption); (case hk => first | exact rfl | assumption); (case hd => k_extra "ROOM"); (case hu => k_extra "ROOM"))))
  (k_with "SEP" => (((repeat' (first | assumption | exact sep_nil | refine sep_app ?_ ?_ | refine sep_cons ?_ ?_)); (all_goals ((repeat' (first | exact nmNil | refine nmCons ?_ ?_)); all_goals first | assumption | k_extra "NEC" | exact Ne.symm (by assumption) | exact News.ne (by with_reducible assumption) (by k_mem) (by k_mem) (ne_typ rfl))))))
  (k_with "SPLIT1" => (first | (refine' News.at0 ?n; (case n => with_reducible assumption)) | (refine' News.at1 ?n; (case n => with_reducible assumption)) | (refine' News.at2 ?n; (case n => with_reducible assumption)) | (refine' News.at3 ?n; (case n => with_reducible assumption)) | (refine' News.at4 ?n; (case n => with_reducible assumption)) | (refine' News.at5 ?n; (case n => with_reducible assumption)) | (refine' News.at6 ?n; (case n => with_reducible assumption))))
  (k_with "pyIter ref" => (refine stopHere ?_))
  (k_with "SEPI" => (((repeat' (first | assumption | exact sep_nil | refine sep_app ?_ ?_ | refine sep_cons ?_ ?_)); (all_goals ((try dsimp only); first | assumption | k_extra "NEC" | exact Ne.symm (by assumption))))))
  (k_with "SUBT" => (first | exact sub_refl | (refine sub_cons ?_; k_extra "SUBT") | (refine sub_right ?_; k_extra "SUBT") | (refine sub_left ?_; k_extra "SUBT")))
  (k_with "MEM" => (first | exact memH | (with_reducible refine List.mem_append_right _ ?_; k_extra "MEM") | (with_reducible refine List.mem_append_left _ ?_; k_extra "MEM") | (with_reducible refine memT ?_; k_extra "MEM")))
  (k_with "SUBT2" => (first | exact sub_refl | (with_reducible refine sub_right ?_; k_extra "SUBT2") | (with_reducible refine sub_left ?_; k_extra "SUBT2") | (with_reducible refine sub_cons ?_; k_extra "SUBT2")))
  (k_with "SUBM" => (((repeat' (first | exact sep_nil | refine sep_app ?_ ?_ | refine sep_cons ?_ ?_)); (all_goals first | k_extra "MEM" | k_extra "SUBT2"))))
  (k_with "SUB" => (((repeat' (first | exact sep_nil | refine sep_app ?_ ?_ | refine sep_cons ?_ ?_)); (all_goals first | k_mem | k_extra "MEM" | k_extra "SUBT2" | (simp only [List.mem_append, List.mem_cons, List.not_mem_nil, true_or, or_true, or_false, false_or]; done) | (intro _ hx9; simp only [hx9, List.mem_append, List.mem_cons, List.not_mem_nil, true_or, or_true, or_false, false_or]; done) | k_extra "SUBT"))))
  (k_with "exec For Name Name cons nil" => ((k_here; (with_unfolding_all refine' For_invVF ?kF ?k1 ?k2 ?_; (case kF => assumption); (case k1 => exact rfl); (case k2 => exact rfl); k_whole))))
  (k_with "exec For Name Call cons nil" => ((k_here; (with_unfolding_all refine' For_invVF ?kF ?k1 ?k2 ?_; (case kF => assumption); (case k1 => exact rfl); (case k2 => exact rfl); k_whole))))
  (k_with "exec For Name Subscript cons nil" => ((k_here; (with_unfolding_all refine' For_invVF ?kF ?k1 ?k2 ?_; (case kF => assumption); (case k1 => exact rfl); (case k2 => exact rfl); k_whole))))
  (k_with "exec For Name Attribute cons nil" => ((k_here; (with_unfolding_all refine' For_invVF ?kF ?k1 ?k2 ?_; (case kF => assumption); (case k1 => exact rfl); (case k2 => exact rfl); k_whole))))
  (k_with "KEEP" => (first | with_reducible assumption | exact DerV.keep (by with_reducible assumption) (Fr.keep (by with_reducible assumption)) | exact Sto.keep (by with_reducible assumption) (Fr.keep (by with_reducible assumption)) | exact Bok.keep (by with_reducible assumption) (Fr.keep (by with_reducible assumption)) | exact TupG.keep (by with_reducible assumption) (Fr.keep (by with_reducible assumption)) | exact ⟨_, by k_extra "GET"⟩ | exact ⟨_, _, _, _, rfl, by k_extra "GET"⟩ | assumption))
  trivial
theorem iter_tupJ {l : Addr} {vs : List Value} {ol : Obj} {k : Nat} {m₀ : Str → Option Value} {news : List (Addr × Obj)} (J : Nat → (Str → Option Value) → List (Addr × Obj) → Prop)
    (hh : A.handled = none) (oc : ol.cls = .type "tuple") (od : ol.data = .seq vs.toArray k) (hmem : h₀.get? l = some (ol) ∨ ∀ i m news, J i m news → (l, ol) ∈ news) (F : Fr h₀ env.locals s.heap m₀) (N : News h₀ env.locals s.heap news) (h0 : J 0 m₀ news)
    (turn : ∀ (i : Nat) v m₁ news₁ h tk I oI, vs[i]? = some v → J i m₁ news₁ → (∀ p ∈ news₁, ¬ p.1 = I) → oI.cls = .type "tuple_iterator" →
      Fr h₀ env.locals h (fun y => if y = x then some v else m₁ y) → News h₀ env.locals h ((I, oI) :: news₁) →
      wpAny (model prog w) A (execs body env) (TurnJ h₀ env.locals [(I, oI)] I (J (i + 1)) s Q) E { s with heap := h, toks := tk })
    (done : ∀ m₁ news₁ h tk, J vs.length m₁ news₁ → Fr h₀ env.locals h m₁ → News h₀ env.locals h news₁ → Q .next { s with heap := h, toks := tk }) :
    wpAny (model prog w) A (pyIter (.ref l)) (fun it s₂ => LoopAtV prog w A h₀ env x body Q E it s₂) E s := by
  have hl : s.heap.get? l = some (ol) := hmem.elim (fun e => F.keep _ _ e) fun e => (N _ (e _ _ _ h0)).1
  have hlL : ¬ l = env.locals := fun e => hmem.elim (fun e' => absurd (Nat.lt_of_lt_of_le (Heap.lt_size e') F.above) (e ▸ Nat.lt_irrefl _)) fun e' => (N _ (e' _ _ _ h0)).2.1 e
  have hls : IsTup s.heap l vs.toArray := ⟨_, hl, oc, _, od⟩
  have hlt : l < s.heap.objs.size := Heap.lt_size hl
  have hne : l ≠ s.heap.objs.size := Nat.ne_of_lt hlt
  refine iter_tuple hls ?_
  have W := Walks.tuple (prog := prog) (w := w) hh s.heap.objs.size l hne vs.toArray
  have hlen : vs.toArray.size = vs.length := by simp
  rw [hlen] at W
  refine ⟨_, _, _, vs.length, _, _, m₀, news, J, rfl, W, ?_, ?_, ?_, ⟨⟨_, Heap.get?_push_size _ rfl, rfl, rfl⟩, ⟨_, Heap.get?_push_of_some _ hl, oc, _, od⟩⟩, F.push _, (fun p hp => ⟨Heap.get?_push_of_some _ (N p hp).1, (N p hp).2⟩), h0, ?_, ?_⟩
  · intro hm
    obtain e | hm := List.mem_cons.mp hm
    · exact absurd F.ns.lt (e ▸ Nat.lt_irrefl _)
    · exact hlL (List.mem_singleton.mp hm).symm
  · intro b hb
    rw [List.mem_singleton.mp hb]
    exact next_is_new F
  · intro p hp hI
    exact absurd (Heap.lt_size (N p hp).1) ((List.mem_singleton.mp hI) ▸ Nat.lt_irrefl _)
  · intro i v m₁ news₁ s₁ own hR6 hi hP hJ hoff hown hget hall st F₁ N₁; obtain ⟨hh', tk', rfl⟩ := hR6
    have hx : vs[i]? = some v := by simpa using hP
    obtain ⟨oI, eI, cI, _⟩ := st.1
    have hm : (s.heap.objs.size, oI) ∈ own := hall _ (.head _) (next_is_new F) _ eI
    have hone : ∀ q ∈ own, q = (s.heap.objs.size, oI) ∨ (q = (l, ol) ∧ ∀ i m news, J i m news → (l, ol) ∈ news) := fun q hq => by
      have e2 := hget q hq
      have e3 := (N₁ q (List.mem_append_left _ hq)).2.2
      obtain ⟨q1, q2⟩ := q
      obtain e1 | e1 := List.mem_cons.mp (hown _ hq)
      · left
        dsimp only at e1 e2
        subst e1
        rw [eI] at e2
        cases e2
        rfl
      · right
        have e1 := List.mem_singleton.mp e1
        dsimp only at e1 e2 e3
        subst e1
        obtain z | z := hmem
        · rw [z] at e3; cases e3
        · have y := (N₁ _ (List.mem_append_right _ (z _ _ _ hJ))).1
          dsimp only at y
          rw [y] at e2
          cases e2
          exact ⟨rfl, z⟩
    have N₂ : News h₀ env.locals hh' ((s.heap.objs.size, oI) :: news₁) := News.sub N₁ fun p hp => by
      obtain rfl | hp := List.mem_cons.mp hp
      · exact List.mem_append_left _ hm
      · exact List.mem_append_right _ hp
    refine wpAny_mono (turn i v m₁ news₁ hh' tk' _ oI hx hJ (fun p hp e => hoff p hp (List.mem_singleton.mpr e)) cI F₁ N₂) (fun f s₂ z => ?_) fun _ _ e => e
    have fin : (∃ h' tk m' news', s₂ = { s with heap := h', toks := tk } ∧ Fr h₀ env.locals h' m' ∧ News h₀ env.locals h' ([(s.heap.objs.size, oI)] ++ news') ∧ (∀ p ∈ news', ¬ p.1 = s.heap.objs.size) ∧ J (i + 1) m' news') → LoopStepU h₀ env.locals [s.heap.objs.size] own (J (i + 1)) { s with heap := hh', toks := tk' } .next s₂ := by
      intro hR0; obtain ⟨h', tk, m', news', e, F', N', hne, hj⟩ := hR0
      refine ⟨rfl, h', tk, m', news', e, F', fun p hp => ?_, fun p hp hm => hne p hp (List.mem_singleton.mp hm), hj⟩
      obtain hp | hp := List.mem_append.mp hp
      · obtain rfl | ⟨rfl, z⟩ := hone p hp
        · exact N' _ (List.mem_append_left _ (.head _))
        · exact N' _ (List.mem_append_right _ (z _ _ _ hj))
      · exact N' p (List.mem_append_right _ hp)
    cases f with
    | ret v => exact .ret z
    | brk => exact .brk z
    | next => exact .next (fin z)
    | cont => exact .cont (fin z)
  · intro h' tk m' news' F' N' _ hA
    exact done m' news' h' tk hA F' N'
end
section
variable {prog : Program} {w : World} {A : Around} {E : Value → Shared → Prop} {Q : Flow → Shared → Prop} {s : Shared} {env : Env} {h₀ : Heap} {L : Addr} {x : Str} {body : List Stmt}
theorem for_tup {l : Addr} {vs : List Value} {ol : Obj} {k : Nat} {m₀ : Str → Option Value} {news : List (Addr × Obj)} (J : Nat → (Str → Option Value) → List (Addr × Obj) → Prop)
    (hL : env.locals = L) (hh : A.handled = none) (oc : ol.cls = .type "tuple") (od : ol.data = .seq vs.toArray k) (hmem : h₀.get? l = some (ol) ∨ ∀ i m news, J i m news → (l, ol) ∈ news) (F : Fr h₀ L s.heap m₀) (N : News h₀ L s.heap news) (h0 : J 0 m₀ news)
    (turn : ∀ (i : Nat) v m₁ news₁ h tk I oI, vs[i]? = some v → J i m₁ news₁ → (∀ p ∈ news₁, ¬ p.1 = I) → oI.cls = .type "tuple_iterator" →
      Fr h₀ L h (fun y => if y = x then some v else m₁ y) → News h₀ L h ((I, oI) :: news₁) →
      wpAny (model prog w) A (execs body env) (TurnJ h₀ L [(I, oI)] I (J (i + 1)) s Q) E { s with heap := h, toks := tk })
    (done : ∀ m₁ news₁ h tk, J vs.length m₁ news₁ → Fr h₀ L h m₁ → News h₀ L h news₁ → Q .next { s with heap := h, toks := tk }) :
    Stop (wpAny (model prog w) A (pyIter (.ref l)) (fun it s₂ => LoopAtV prog w A h₀ env x body Q E it s₂) E s) := by
  subst hL
  exact iter_tupJ J hh oc od hmem F N h0 turn done
end
end Part14
section Part15
noncomputable def putL {α : Type} [DecidableEq α] (l : List α) (x : α) : List α := if x ∈ l then l else l ++ [x]
theorem putL_old {α : Type} [DecidableEq α] {l : List α} {x : α} (h : x ∈ l) : putL l x = l := if_pos h
theorem putL_new {α : Type} [DecidableEq α] {l : List α} {x : α} (h : ¬ x ∈ l) : putL l x = l ++ [x] := if_neg h
noncomputable def ixL {α : Type} [DecidableEq α] (l : List α) (x : α) : Nat := l.idxOf x
theorem ixL_new {α : Type} [DecidableEq α] {l : List α} {x : α} (h : ¬ x ∈ l) : ixL (l ++ [x]) x = l.length := by
  unfold ixL
  rw [List.idxOf_append, if_neg h]
  simp
theorem ixL_old {α : Type} [DecidableEq α] {l : List α} {x y : α} (h : y ∈ l) : ixL (l ++ [x]) y = ixL l y := by
  unfold ixL
  rw [List.idxOf_append, if_pos h]
theorem valueAt_put {K : Type} [DecidableEq K] {kvs : List (K × Value)} {k : K} {v : Value} (h : valueAt kvs k = none) : stored kvs k v = kvs ++ [(k, v)] ∧ ∀ j, valueAt (kvs ++ [(k, v)]) j = if j = k then some v else valueAt kvs j := by
  unfold valueAt at h
  rw [Option.map_eq_none_iff, List.find?_eq_none] at h
  constructor
  · unfold stored
    rw [if_neg]
    rw [List.any_eq_true]
    intro hR0; obtain ⟨x, hx, e⟩ := hR0
    exact h x hx e
  · intro j
    unfold valueAt
    rw [List.find?_append]
    by_cases e : j = k
    · subst e
      rw [if_pos rfl, List.find?_eq_none.mpr h]
      simp
    · rw [if_neg e]
      cases hf : kvs.find? fun kv => decide (kv.1 = j) with
      | some y => rfl
      | none => simp [Ne.symm e]
theorem atKey_put {K : Type} [DecidableEq K] {xs : List (K × Addr × Value)} {k : K} {a : Addr} {v : Value} (h : atKey xs k = none) : ∀ j, atKey (xs ++ [(k, a, v)]) j = if j = k then some (a, v) else atKey xs j := by
  unfold atKey at h
  rw [Option.map_eq_none_iff, List.find?_eq_none] at h
  intro j
  unfold atKey
  rw [List.find?_append]
  by_cases e : j = k
  · subst e
    rw [if_pos rfl, List.find?_eq_none.mpr h]
    simp
  · rw [if_neg e]
    cases hf : xs.find? fun kv => decide (kv.1 = j) with
    | some y => rfl
    | none => simp [Ne.symm e]
noncomputable def AtomsP (prog : Program) (w : World) (T : List Str) (ts : List Value) (oA : Obj) : Prop :=
  ∃ kvs, oA.IsDictOf (PySem.strKind prog w) kvs ∧ ts.length = T.length ∧ kvs.length = T.length ∧ (∀ t, t ∈ T → ∃ tok, valueAt kvs t = some (.int (ixL T t : Nat) tok)) ∧ ∀ t, ¬ t ∈ T → valueAt kvs t = none
noncomputable def FunsP (prog : Program) (w : World) (Tp : Value → Int × Int → Prop) (F : List (Int × Int)) (fs : List Value) (oF : Obj) : Prop :=
  ∃ xs, IsDictT prog w oF xs ∧ CellsP Tp fs F ∧ xs.length = F.length ∧ (∀ c, c ∈ F → ∃ a tok, atKey xs [c.1, c.2] = some (a, .int (ixL F c : Nat) tok)) ∧ (∀ c : Int × Int, ¬ c ∈ F → atKey xs [c.1, c.2] = none) ∧ ∀ x ∈ xs, ∃ c, x.1 = [c.1, c.2] ∧ Tp (.ref x.2.1) c
theorem AtomsP.put {prog : Program} {w : World} {T : List Str} {ts : List Value} {oA : Obj} {kvs : List (Str × Value)} {t : Str} {tt tk : Tok} (hn : ¬ t ∈ T) (e1 : ts.length = T.length) (e2 : kvs.length = T.length)
    (e3 : ∀ t, t ∈ T → ∃ tok, valueAt kvs t = some (.int (ixL T t : Nat) tok)) (e4 : ∀ t, ¬ t ∈ T → valueAt kvs t = none) (h : oA.IsDictOf (PySem.strKind prog w) (stored kvs t (.int ts.length tk))) : AtomsP prog w (T ++ [t]) (ts ++ [.str t tt]) oA := by
  obtain ⟨p1, p2⟩ := valueAt_put (v := .int ts.length tk) (e4 t hn)
  rw [p1] at h
  refine ⟨_, h, by simp [e1], by simp [e2], fun j hj => ?_, fun j hj => ?_⟩
  · rw [p2]
    by_cases e : j = t
    · subst e
      rw [if_pos rfl, ixL_new hn, e1]
      exact ⟨_, rfl⟩
    · rw [if_neg e]
      have hj' : j ∈ T := by
        obtain x | x := List.mem_append.mp hj
        · exact x
        · exact absurd (List.mem_singleton.mp x) e
      rw [ixL_old hj']
      exact e3 j hj'
  · rw [p2, if_neg (fun e => hj (by simp [e]))]
    exact e4 j fun z => hj (List.mem_append_left _ z)
theorem FunsP.put {prog : Program} {w : World} {Tp Tq : Value → Int × Int → Prop} {F : List (Int × Int)} {fs : List Value} {oF : Obj} {xs : List (List Int × Addr × Value)} {c : Int × Int} {a : Addr} {tk : Tok} (hm : ∀ v c, Tp v c → Tq v c) (hn : ¬ c ∈ F) (e1 : CellsP Tp fs F) (e2 : xs.length = F.length)
    (e3 : ∀ c, c ∈ F → ∃ a tok, atKey xs [c.1, c.2] = some (a, .int (ixL F c : Nat) tok)) (e4 : ∀ c : Int × Int, ¬ c ∈ F → atKey xs [c.1, c.2] = none) (e5 : ∀ x ∈ xs, ∃ c, x.1 = [c.1, c.2] ∧ Tp (.ref x.2.1) c) (ha : Tq (.ref a) c) (h : IsDictT prog w oF (xs ++ [([c.1, c.2], a, .int fs.length tk)])) : FunsP prog w Tq (F ++ [c]) (fs ++ [.ref a]) oF := by
  have p2 := atKey_put (a := a) (v := .int fs.length tk) (e4 c hn)
  have inj : ∀ {j : Int × Int}, [j.1, j.2] = [c.1, c.2] → j = c := fun {j} e => by
    injection e with e1 e2
    injection e2 with e2 _
    exact Prod.ext e1 e2
  refine ⟨_, h, (e1.mono hm).app (.cons ha .nil), by simp [e2], fun j hj => ?_, fun j hj => ?_, fun x hx => ?_⟩
  · rw [p2]
    by_cases e : j = c
    · subst e
      rw [if_pos rfl, ixL_new hn, e1.length]
      exact ⟨_, _, rfl⟩
    · rw [if_neg fun z => e (inj z)]
      have hj' : j ∈ F := by
        obtain x | x := List.mem_append.mp hj
        · exact x
        · exact absurd (List.mem_singleton.mp x) e
      rw [ixL_old hj']
      exact e3 j hj'
  · rw [p2, if_neg (fun z => hj (by rw [inj z]; simp))]
    exact e4 j fun z => hj (List.mem_append_left _ z)
  · obtain hx | hx := List.mem_append.mp hx
    · obtain ⟨c, q1, q2⟩ := e5 x hx
      exact ⟨c, q1, hm _ _ q2⟩
    · rw [List.mem_singleton.mp hx]
      exact ⟨c, rfl, ha⟩
end Part15
section Part16
theorem tup_off {h₀ h g : Heap} {L : Addr} {loc : List (Addr × Obj)} {v : Value} {c : Int × Int} (N : News h₀ L h loc) (hl : ∀ q ∈ loc, q.2.cls ≠ .type "tuple") (hg : ∀ b o, h.get? b = some o → b ∉ loc.map (·.1) → g.get? b = some o) (t : TupG h v c) : TupG g v c := by
  obtain ⟨a, t1, t2, n, rfl, e⟩ := t
  refine ⟨a, t1, t2, n, rfl, hg _ _ e fun hm => ?_⟩
  obtain ⟨q, hq, rfl⟩ := List.mem_map.mp hm
  have := (N q hq).1
  rw [e] at this
  injection this with this
  exact hl _ hq (by rw [← this]; rfl)
theorem AtomsP.cls {prog : Program} {w : World} {Tx : List Str} {ts : List Value} {oA : Obj} (h : AtomsP prog w Tx ts oA) : oA.cls = .type "dict" := by
  obtain ⟨kvs, ⟨es, ep, a, _⟩, _⟩ := h
  exact a.1
theorem FunsP.cls {prog : Program} {w : World} {Tp : Value → Int × Int → Prop} {Fx : List (Int × Int)} {fs : List Value} {oF : Obj} (h : FunsP prog w Tp Fx fs oF) : oF.cls = .type "dict" := by
  obtain ⟨kvs, ⟨es, ep, a, _⟩, _⟩ := h
  exact a.1
section
variable {prog : Program} {w : World} {p : Program} {loose : List Str} {mean : ExcName → Option Value} {mg mb : Str → Option Value} {dp un : Nat} {gd : Option (List Code)} {cn : Str} {cs : Scope} {a : Addr} {ccd : Value} {cl : List (Str × Addr)} {outer : List Env} {A₀ : Around} {base h₀ : Heap} {L : Addr} {m : Str → Option Value} {s : Shared} {Q E : Value → Shared → Prop}
  (B : Below A₀ base outer h₀) (F : Fr h₀ L s.heap m) (X : (Mine.hd.heap_1 w.params).In h₀) (T : Top p loose mean mg mb h₀) (hk : cs.kind = .function) (hd : dp + 5 < recursionLimit) (hu : un + 100 < cLine)
include B F X T hk hd hu
theorem atom_spec {pre post : List (Addr × Obj)} {bk dbk TX AN FL FN : Addr} {ts : List Value} {n1 : Nat} {Tx : List Str} {oA : Obj} {t : Str} {tt : Tok} {kk : Nat → Tok}
    (N : News h₀ L s.heap (pre ++ ([(TX, listOf ts.toArray n1), (AN, oA)] ++ post))) (sep : ∀ q ∈ pre ++ post, q.1 ∉ [(TX, listOf ts.toArray n1), (AN, oA)].map (·.1)) (hTA : ¬ TX = AN) (hA : AtomsP prog w Tx ts oA) (lo : (AN == sysModules) = false)
    (hbk : s.heap.get? bk = some (instObj 154 dbk)) (hdbk : s.heap.get? dbk = some (dictOf (bkE w.params TX AN FL FN kk) 4)) (nb1 : ¬ bk = TX) (nb2 : ¬ bk = AN) (nd1 : ¬ dbk = TX) (nd2 : ¬ dbk = AN)
    (hl : Tx.length ≤ 80000)
    (ret : ∀ h' tk' t1 ts' n' oA', AtomsP prog w (putL Tx t) ts' oA' → Fr h₀ L h' m → News h₀ L h' (pre ++ ([(TX, listOf ts'.toArray n'), (AN, oA')] ++ post)) → Q (.int (ixL (putL Tx t) t : Nat) t1) { s with heap := h', toks := tk' }) :
    wpAny (model prog w) (ktrTop dp un gd cn cs L a ccd cl outer) (call (.ref 88) [.ref bk, .str t tt]) Q E s := by
  have hA' := id hA
  obtain ⟨kvs, hd9, e1, e2, e3, e4⟩ := id hA
  by_cases ht : t ∈ Tx
  · obtain ⟨tok, hv⟩ := e3 t ht
    refine atom1_spec B F X T hk hd hu N sep hTA hd9 lo hbk hdbk nb1 nb2 nd1 nd2 hv (by k_extra "OM") fun h' tk' F' N' => ?_
    have := ret h' tk' tok ts n1 oA (by rw [putL_old ht]; exact hA') F' N'
    rw [putL_old ht] at this
    exact this
  · refine atom0_spec B F X T hk hd hu N sep hTA hd9 lo hbk hdbk nb1 nb2 nd1 nd2 (e4 t ht) (by k_extra "OM") (by k_extra "OM") fun h' tk' t1 t2 oA' hd' F' N' => ?_
    have := ret h' tk' t1 _ _ oA' (by rw [putL_new ht]; exact AtomsP.put ht e1 e2 e3 e4 hd') F' N'
    rw [putL_new ht, ixL_new ht, ← e1] at this
    exact this
theorem functor_spec {pre post : List (Addr × Obj)} {bk dbk TX AN FL FN : Addr} {fs : List Value} {n1 : Nat} {Fx : List (Int × Int)} {oF : Obj} {c : Int × Int} {ta tb : Tok} {kk : Nat → Tok} {Tp : Value → Int × Int → Prop}
    (N : News h₀ L s.heap (pre ++ ([(FL, listOf fs.toArray n1), (FN, oF)] ++ post))) (sep : ∀ q ∈ pre ++ post, q.1 ∉ [(FL, listOf fs.toArray n1), (FN, oF)].map (·.1)) (hTA : ¬ FL = FN) (hA : FunsP prog w Tp Fx fs oF) (lo : (FN == sysModules) = false)
    (hTp : ∀ v c, Tp v c → TupG s.heap v c)
    (hbk : s.heap.get? bk = some (instObj 154 dbk)) (hdbk : s.heap.get? dbk = some (dictOf (bkE w.params TX AN FL FN kk) 4)) (nb1 : ¬ bk = FL) (nb2 : ¬ bk = FN) (nd1 : ¬ dbk = FL) (nd2 : ¬ dbk = FN)
    (hl : Fx.length ≤ 80000)
    (ret : ∀ h' tk' t1 nt fs' n' oF', FunsP prog w (Tq Tp nt) (putL Fx c) fs' oF' → (∀ q ∈ nt, q.2.cls = .type "tuple") → Fr h₀ L h' m → News h₀ L h' (pre ++ ((nt ++ [(FL, listOf fs'.toArray n'), (FN, oF')]) ++ post)) → Q (.int (ixL (putL Fx c) c : Nat) t1) { s with heap := h', toks := tk' }) :
    wpAny (model prog w) (ktrTop dp un gd cn cs L a ccd cl outer) (call (.ref 102) [.ref bk, .int c.1 ta, .int c.2 tb]) Q E s := by
  have hcls := hA.cls
  have hA' := id hA
  obtain ⟨xs, hd9, e1, e2, e3, e4, e5⟩ := id hA
  have N0 := News.loc N
  have hks : KeysT s.heap xs := fun x hx => by
    obtain ⟨c, p, q⟩ := e5 x hx
    exact ⟨c, p, hTp _ _ q⟩
  have hne : ∀ x ∈ xs, ¬ x.2.1 = FL ∧ ¬ x.2.1 = FN := fun x hx => by
    obtain ⟨c, p, a, t1, t2, n, e, q⟩ := hks x hx
    injection e with e
    constructor
    · intro z
      have := (N0 _ (.head _)).1
      dsimp only at this
      rw [← z, e, q] at this
      injection this with this
      have := congrArg Obj.cls this
      injection this with this
      simp at this
    · intro z
      have := (N0 _ (.tail _ (.head _))).1
      dsimp only at this
      rw [← z, e, q] at this
      injection this with this
      rw [← this] at hcls
      injection hcls with this
      simp at this
  have l1 := e1.length
  by_cases ht : c ∈ Fx
  · obtain ⟨kz, tok, hv⟩ := e3 c ht
    refine functor1_spec B F X T hk hd hu N sep hTA hd9 lo hks hne hbk hdbk nb1 nb2 nd1 nd2 hv (by k_extra "OM") fun h' tk' F' N' => ?_
    have := ret h' tk' tok [] fs n1 oF (by
      rw [putL_old ht]
      exact ⟨xs, hd9, e1.mono fun _ _ => .inl, e2, e3, e4, fun x hx => by
        obtain ⟨c, p, q⟩ := e5 x hx
        exact ⟨c, p, .inl q⟩⟩) (fun _ h => nomatch h) F' N'
    rw [putL_old ht] at this
    exact this
  · refine functor0_spec B F X T hk hd hu N sep hTA hd9 lo hks hne hbk hdbk nb1 nb2 nd1 nd2 (e4 c ht) (by k_extra "OM") (by k_extra "OM") fun h' tk' t1 t2 a' t3 t4 oF' hd' F' N' => ?_
    have := ret h' tk' t1 [(a', tupO c t3 t4 0)] _ _ oF' (by rw [putL_new ht]; exact FunsP.put (fun _ _ => .inl) ht e1 e2 e3 e4 e5 (.inr ⟨a', t3, t4, rfl, .head _⟩) hd') (fun q hq => by rw [List.mem_singleton.mp hq]; rfl) F' N'
    rw [putL_new ht, ixL_new ht, ← l1] at this
    exact this
end
end Part16
section Part17
section
variable {prog : Program} {w : World} {p : Program} {loose : List Str} {mean : ExcName → Option Value} {mg mb : Str → Option Value} {dp un : Nat} {gd : Option (List Code)} {cn : Str} {cs : Scope} {a : Addr} {ccd : Value} {cl : List (Str × Addr)} {outer : List Env} {A₀ : Around} {base h₀ : Heap} {L : Addr} {m : Str → Option Value} {s : Shared} {Q E : Value → Shared → Prop}
  (B : Below A₀ base outer h₀) (F : Fr h₀ L s.heap m) (X : (Mine.hd.heap_1 w.params).In h₀) (T : Top p loose mean mg mb h₀) (hk : cs.kind = .function) (hd : dp + 10 < recursionLimit) (hu : un + 200 < cLine)
include B F X T hk hd hu
theorem ln18 : True := by
  (k_with "call ref" => ((k_here; (with_reducible show wpAny _ _ (call (Value.ref 88) _) _ _ _); refine stopHere ?_)))
  (k_with "call ref" => ((k_here; (with_reducible show wpAny _ _ (call (Value.ref 102) _) _ _ _); refine stopHere ?_)))
  trivial
theorem func_spec {pre post : List (Addr × Obj)} {bk dbk TX AN FL FN : Addr} {ts fs : List Value} {n1 n2 : Nat} {Tx : List Str} {Fx : List (Int × Int)} {oA oF : Obj} {t : Str} {k : Int} {tt tb : Tok} {kk : Nat → Tok} {Tp : Value → Int × Int → Prop}
    (N : News h₀ L s.heap (pre ++ ([(TX, listOf ts.toArray n1), (AN, oA), (FL, listOf fs.toArray n2), (FN, oF)] ++ post))) (sep : ∀ q ∈ pre ++ post, q.1 ∉ [(TX, listOf ts.toArray n1), (AN, oA), (FL, listOf fs.toArray n2), (FN, oF)].map (·.1))
    (q1 : ¬ TX = AN) (q2 : ¬ TX = FL) (q3 : ¬ TX = FN) (q4 : ¬ AN = FL) (q5 : ¬ AN = FN) (q6 : ¬ FL = FN) (hA : AtomsP prog w Tx ts oA) (hF : FunsP prog w Tp Fx fs oF) (lo : (AN == sysModules) = false) (lo2 : (FN == sysModules) = false)
    (hTp : ∀ v c, Tp v c → TupG s.heap v c)
    (hbk : s.heap.get? bk = some (instObj 154 dbk)) (hdbk : s.heap.get? dbk = some (dictOf (bkE w.params TX AN FL FN kk) 4)) (nb1 : ¬ bk = TX) (nb2 : ¬ bk = AN) (nb3 : ¬ bk = FL) (nb4 : ¬ bk = FN) (nd1 : ¬ dbk = TX) (nd2 : ¬ dbk = AN) (nd3 : ¬ dbk = FL) (nd4 : ¬ dbk = FN)
    (hl : Tx.length ≤ 80000) (hl2 : Fx.length ≤ 80000)
    (ret : ∀ h' tk' t1 nt ts' fs' n1' n2' oA' oF' c, c = (((ixL (putL Tx t) t : Nat) : Int), k) → AtomsP prog w (putL Tx t) ts' oA' → FunsP prog w (Tq Tp nt) (putL Fx c) fs' oF' → (∀ q ∈ nt, q.2.cls = .type "tuple") → Fr h₀ L h' m →
      News h₀ L h' (pre ++ ((nt ++ [(TX, listOf ts'.toArray n1'), (AN, oA'), (FL, listOf fs'.toArray n2'), (FN, oF')]) ++ post)) → Q (.int (ixL (putL Fx c) c : Nat) t1) { s with heap := h', toks := tk' }) :
    wpAny (model prog w) (ktrTop dp un gd cn cs L a ccd cl outer) (call (.ref 109) [.ref bk, .str t tt, .int k tb]) Q E s := by
  have N0 := News.loc N
  have NR := News.others N
  have cA := hA.cls
  have cF := hF.cls
  k_dflt (refine' enterM (binds := [(Str.ofString "self", .ref bk), (Str.ofString "text", .str t tt), (Str.ofString "arity", .int k tb)]) ?k1 ?k2 ?k3 ?k4 ?kr ?ks ?k5 ?kK ?k8 ?k6 ?k7 ?k9 ?kB ?_ ?c2 ?c3 ?c4 ?c5; k_extra "ENTER")
  intro g L' h' tk F' N' B' X' T' hg
  have hTg : ∀ v c, Tp v c → TupG g v c := fun v c x => tup_off N0 (by
    intro q hq
    simp only [List.mem_cons, List.not_mem_nil, or_false] at hq
    rcases hq with rfl | rfl | rfl | rfl <;> (intro e; first | (rw [cA] at e; injection e with e; simp at e; done) | (rw [cF] at e; injection e with e; simp at e; done) | (injection e with e; simp at e; done))) hg (hTp v c x)
  replace hbk := hg _ _ hbk (by simp [nb1, nb2, nb3, nb4])
  replace hdbk := hg _ _ hdbk (by simp [nd1, nd2, nd3, nd4])
  (try dsimp only)
  k_extra "STEPS"
  show wpAny _ _ _ _ _ _
  k_dflt (refine' atom_spec ?B ?F ?X ?T ?hk ?hd ?hu ?N ?sep ?hTA ?hA ?lo ?hbk ?hdbk ?a1 ?a2 ?a3 ?a4 ?hl ?_; k_extra "CTX2"; (case N => exact News.two0 N'); (case sep => k_extra "SEP"); (case hTA => assumption); (case hA => exact hA); (case lo => assumption); (case hbk => k_extra "GET"); (case hdbk => k_extra "GET"); (case a1 => assumption); (case a2 => assumption); (case a3 => assumption); (case a4 => assumption); (case hl => k_extra "OM"))
  intro h' tk' t1 ts' n1' oA' hA' F' N'
  k_extra "AFTER"
  k_extra "STEPS"
  (try dsimp only [List.nil_append, List.cons_append] at N')
  show wpAny _ _ _ _ _ _
  k_dflt (refine' functor_spec (Tp := Tp) (c := (((ixL (putL Tx t) t : Nat) : Int), k)) ?B ?F ?X ?T ?hk ?hd ?hu ?N ?sep ?hTA ?hA ?lo ?hTp ?hbk ?hdbk ?a1 ?a2 ?a3 ?a4 ?hl ?_; k_extra "CTX2"; (case N => exact News.two2 N'); (case sep => k_extra "SEP"); (case hTA => assumption); (case hA => exact hF); (case lo => assumption); (case hTp => exact fun v c x => (hTg v c x).keep (Fr.keep (by with_reducible assumption))); (case hbk => k_extra "GET"); (case hdbk => k_extra "GET"); (case a1 => assumption); (case a2 => assumption); (case a3 => assumption); (case a4 => assumption); (case hl => k_extra "OM"))
  intro h' tk' t1 nt fs' n2' oF' hF' hnt F' N'
  k_extra "AFTER"
  k_extra "STEPS"
  have N9 := News.sub (b := nt ++ [(TX, listOf ts'.toArray n1'), (AN, oA'), (FL, listOf fs'.toArray n2'), (FN, oF')]) N' (by
    intro x hx
    simp only [List.mem_append, List.mem_cons, List.not_mem_nil, or_false] at hx ⊢
    rcases hx with hx | hx | hx | hx | hx <;> simp [hx])
  k_extra "LV"
  exact ret _ _ _ _ _ _ _ _ _ _ _ rfl hA' hF' hnt (by with_reducible assumption) (News.join (by assumption))
end
end Part17
section Part18
noncomputable def atomRow : List Str := ["[]", ".", "{}", "-", "+", "*", "/", ",", "|", ";", "->", "\\+", ":-", "?-", "-->", "!", "true", "fail", "false", "call", "=", "^", "error", "", "end_of_file", "system", "$VAR", "catch", "throw"].map Str.ofString
inductive StrRow : List Str → List Value → Prop where
  | nil : StrRow [] []
  | cons {t : Str} {tok : Tok} {ts : List Str} {vs : List Value} : StrRow ts vs → StrRow (t :: ts) (.str t tok :: vs)
theorem ln19 : True := by
  k_with_none
  (k_with "LIT0" => (first | with_reducible assumption | ((first | (with_reducible show @LE.le Nat _ (OfNat.ofNat _) (OfNat.ofNat _)) | (with_reducible show @LT.lt Nat _ (OfNat.ofNat _) (OfNat.ofNat _))); exact Nat.le_of_ble_eq_true rfl)))
  (k_with "LIT1" => (first | with_reducible assumption | (with_reducible refine' Nat.lt_of_lt_of_le ?ha ?hb; (case ha => with_reducible assumption); (case hb => k_extra "LIT0")) | (with_reducible refine' Nat.lt_of_le_of_lt ?ha ?hb; (case ha => with_reducible assumption); (case hb => k_extra "LIT0")) | (with_reducible refine' Nat.le_trans ?ha ?hb; (case ha => with_reducible assumption); (case hb => k_extra "LIT0")) | (with_reducible refine' Nat.le_of_lt (Nat.lt_of_lt_of_le ?ha ?hb); (case ha => with_reducible assumption); (case hb => k_extra "LIT0")) | (with_reducible refine' Nat.lt_of_le_of_lt (Nat.le_of_eq ?ha) ?hb; (case ha => with_reducible assumption); (case hb => k_extra "LIT0")) | (with_reducible refine' Nat.le_trans (Nat.le_of_eq ?ha) ?hb; (case ha => with_reducible assumption); (case hb => k_extra "LIT0"))))
  (k_with "LIT2" => (first | with_reducible assumption | (with_reducible refine' Nat.lt_of_lt_of_le ?ha ?hb; (case ha => with_reducible assumption); (case hb => k_extra "LIT1")) | (with_reducible refine' Nat.lt_of_le_of_lt ?ha ?hb; (case ha => with_reducible assumption); (case hb => k_extra "LIT1")) | (with_reducible refine' Nat.le_trans ?ha ?hb; (case ha => with_reducible assumption); (case hb => k_extra "LIT1")) | (with_reducible refine' Nat.le_of_lt (Nat.lt_of_lt_of_le ?ha ?hb); (case ha => with_reducible assumption); (case hb => k_extra "LIT1")) | (with_reducible refine' Nat.lt_of_le_of_lt (Nat.le_of_eq ?ha) ?hb; (case ha => with_reducible assumption); (case hb => k_extra "LIT1")) | (with_reducible refine' Nat.le_trans (Nat.le_of_eq ?ha) ?hb; (case ha => with_reducible assumption); (case hb => k_extra "LIT1"))))
  (k_with "OM" => (first | with_reducible assumption | with_reducible exact Int.natCast_nonneg _ | with_reducible exact Int.ofNat_lt.mpr (by with_reducible assumption) | with_reducible exact i63 (by k_extra "LIT2") | k_extra "LIT2" | omega))
  (k_with "LTC" => (first | with_reducible assumption | (refine' Nat.lt_trans ?ha ?hb; (case ha => with_reducible assumption); (case hb => k_extra "LTC"))))
  (k_with "NEC" => ((refine neN ?_; (try dsimp only); first | (refine' Nat.ne_of_lt ?hc; (case hc => k_extra "LTC")) | (refine' Nat.ne_of_gt ?hc; (case hc => k_extra "LTC")) | omega)))
  (k_with "ROOMN" => (first | (refine' roomN ?ha (Nat.add_assoc _ _ _) ?hb; (case ha => with_reducible assumption); (case hb => exact rfl)) | (refine' roomN ?ha rfl ?hb; (case ha => with_reducible assumption); (case hb => exact rfl)) | (refine' roomN ?ha ((Nat.add_assoc _ _ _).trans (Nat.add_assoc _ _ _)) ?hb; (case ha => with_reducible assumption); (case hb => exact rfl)) | exact Nat.lt_of_le_of_lt (Nat.le_add_right _ _) (by with_reducible assumption)))
  (k_with "MKUNITS" => (first | k_extra "ROOMN" | ktr_units))
  (k_with "MKNE" => (first | k_extra "NEC" | ((try dsimp only); assumption) | ((try dsimp only); exact Ne.symm (by assumption)) | ((try dsimp only); exact News.ne (by with_reducible assumption) (by k_mem) (by k_mem) (ne_typ rfl))))
  (k_with "MKALL" => (first | assumption | exact List.forall_mem_nil _ | (refine' List.forall_mem_cons.mpr ⟨?a, ?b⟩; (case a => k_ne); (case b => k_all))))
  (k_with "GET" => (first | exact Fr.keep (by with_reducible assumption) _ _ (by with_reducible assumption) | exact News.get (by with_reducible assumption) (by k_mem)))
  (k_with "MKINST" => (exact instG (by k_extra "GET") (by k_extra "GET")))
  (k_with "MISLIST" => (exact isListG (by k_extra "GET")))
  (k_with "ENTER" => (((case ks => assumption); (case k1 => assumption); (case k2 => assumption); (case k3 => assumption); (case k4 => assumption); (case kr => assumption); (case k5 => assumption); (case kK => assumption); (case k8 => first | k_extra "ROOMN" | ktr_room); (case k6 => k_is); (case k7 => k_is); (case k9 => exact BindsTo.of_eq rfl); (case kB => exact locs rfl); (case c2 => exact rfl); (case c3 => exact rfl); (case c4 => exact rfl); (case c5 => decide))))
  (k_with "subscriptTail" => ((k_here; (with_reducible show wpAny _ _ (subscriptTail _ _ (Value.ref _) (Value.int _ _)) _ _ _); k_dflt (refine' item_list ?k1 ?k2 ?k3 ?k4 ?_; (case k1 => is_list); (case k4 => assumption); (case k2 => k_extra "OM"); (case k3 => k_extra "OM")))))
  (k_with "subscriptTail" => ((k_here; (with_reducible show wpAny _ _ (subscriptTail _ _ (Value.ref _) (Value.int 1 _)) _ _ _); k_dflt (refine' item_tup1 ?k1 ?_; (case k1 => k_extra "GET")))))
  (k_with "subscriptTail" => ((k_here; (with_reducible show wpAny _ _ (subscriptTail _ _ (Value.ref _) (Value.int 0 _)) _ _ _); k_dflt (refine' item_tup0 ?k1 ?_; (case k1 => k_extra "GET")))))
  (k_with "compareOp Eq ref ref" => ((k_here; (with_reducible show wpAny _ _ (compareOp CmpOp.Eq (Value.ref _) (Value.ref _)) _ _ _); k_dflt (refine' eq_tup ?k1 ?k2 ?k3 ?_; (case k1 => k_extra "GET"); (case k2 => k_extra "GET"); (case k3 => k_units)))))
  (k_with "ite" => (first | (refine ite_pos ?c ?_; (case c => ((try simp only [decide_eq_true_eq, beq_iff_eq, Bool.not_eq_true', decide_eq_false_iff_not, ne_eq]); first | assumption | omega))) | (refine ite_neg ?c ?_; (case c => ((try simp only [decide_eq_true_eq, beq_iff_eq, Bool.not_eq_true', decide_eq_false_iff_not, ne_eq]); first | assumption | omega)))))
  (k_with "execs cons" => (((with_reducible refine wpAny_execs_cons ?_); (try dsimp only); k_fold)))
  (k_with "STEPS" => (((try k_fold); (repeat' (first | walk1 | (k_unfold; (try dsimp only)) | (dsimp only; walk1))); (all_goals (try dsimp only)))))
  (k_with "LV" => (((try dsimp only [WhileStep2]); refine' LeaveM.mk ?k1 ?k2 ?_; (case k1 => with_reducible assumption); (case k2 => with_reducible assumption); intro _ nK; (try dsimp only [List.nil_append, List.cons_append] at nK); revert nK; intro _; (try dsimp only))))
  (k_with "ROOM" => (first | k_extra "ROOMN" | (simp only [recursionLimit, cLine] at *; omega)))
  (k_with "CTX" => (((case B => with_reducible assumption); (case F => with_reducible assumption); (case X => with_reducible assumption); (case T => with_reducible assumption); (case hk => first | exact rfl | assumption); (case hd => k_extra "ROOM"); (case hu => k_extra "ROOM"); (case N => with_reducible assumption))))
  (k_with "KEEP" => (first | with_reducible assumption | exact DerV.keep (by with_reducible assumption) (Fr.keep (by with_reducible assumption)) | exact Sto.keep (by with_reducible assumption) (Fr.keep (by with_reducible assumption)) | exact Bok.keep (by with_reducible assumption) (Fr.keep (by with_reducible assumption)) | exact TupG.keep (by with_reducible assumption) (Fr.keep (by with_reducible assumption)) | exact ⟨_, by k_extra "GET"⟩ | exact ⟨_, _, _, _, rfl, by k_extra "GET"⟩ | assumption))
  (k_with "AFTER" => (((try dsimp only); (try k_sweep))))
  (k_with "call builtin:len" => ((k_here; (with_reducible show wpAny _ _ (call (Value.builtin "len") [Value.ref _]) _ _ _); k_dflt (refine' len_any ?k1 ?k2 ?_; (case k1 => is_list); (case k2 => first | with_reducible assumption | ((try simp only [List.length_append, List.length_cons, List.length_nil, List.length_set]); omega))))))
  (k_with "call builtin:list.append" => ((k_here; (with_reducible show wpAny _ _ (call (Value.builtin _) [Value.ref _, _]) _ _ _); k_dflt (refine' append_any ?k1 ?k2 ?k3 ?_ ?z; (case k1 => k_asm); (case k2 => k_asm); (case k3 => k_upd); (case z => first | with_reducible assumption | ((try simp only [List.length_append, List.length_cons, List.length_nil, List.length_set]); omega)); k_whole); intro _ _ _; (try k_sweep))))
  (k_with "setItem ref int" => ((k_here; (with_reducible show wpAny _ _ (setItem (Value.ref _) (Value.int _ _) _) _ _ _); k_dflt (refine' set_any ?k1 ?k2 ?k3 ?k4 ?k5 ?k6 ?_; (case k1 => k_asm); (case k2 => k_asm); (case k3 => k_upd); (case k4 => k_extra "OM"); (case k5 => first | with_reducible assumption | ((try simp only [List.length_append, List.length_cons, List.length_nil, List.length_set]); omega)); (case k6 => k_extra "OM"); k_whole); intro _ _ _; (try k_sweep))))
  (k_with "CTX2" => (((case B => with_reducible assumption); (case F => with_reducible assumption); (case X => with_reducible assumption); (case T => with_reducible assumption); (case hk => first | exact rfl | assumption); (case hd => k_extra "ROOM"); (case hu => k_extra "ROOM"))))
  (k_with "SEP" => (((repeat' (first | assumption | exact sep_nil | refine sep_app ?_ ?_ | refine sep_cons ?_ ?_)); (all_goals ((repeat' (first | exact nmNil | refine nmCons ?_ ?_)); all_goals first | assumption | k_extra "NEC" | exact Ne.symm (by assumption) | exact News.ne (by with_reducible assumption) (by k_mem) (by k_mem) (ne_typ rfl))))))
  (k_with "SPLIT1" => (first | (refine' News.at0 ?n; (case n => with_reducible assumption)) | (refine' News.at1 ?n; (case n => with_reducible assumption)) | (refine' News.at2 ?n; (case n => with_reducible assumption)) | (refine' News.at3 ?n; (case n => with_reducible assumption)) | (refine' News.at4 ?n; (case n => with_reducible assumption)) | (refine' News.at5 ?n; (case n => with_reducible assumption)) | (refine' News.at6 ?n; (case n => with_reducible assumption))))
  (k_with "pyIter ref" => (refine stopHere ?_))
  (k_with "SEPI" => (((repeat' (first | assumption | exact sep_nil | refine sep_app ?_ ?_ | refine sep_cons ?_ ?_)); (all_goals ((try dsimp only); first | assumption | k_extra "NEC" | exact Ne.symm (by assumption))))))
  (k_with "SUBT" => (first | exact sub_refl | (refine sub_cons ?_; k_extra "SUBT") | (refine sub_right ?_; k_extra "SUBT") | (refine sub_left ?_; k_extra "SUBT")))
  (k_with "MEM" => (first | exact memH | (with_reducible refine List.mem_append_right _ ?_; k_extra "MEM") | (with_reducible refine List.mem_append_left _ ?_; k_extra "MEM") | (with_reducible refine memT ?_; k_extra "MEM")))
  (k_with "SUBT2" => (first | exact sub_refl | (with_reducible refine sub_right ?_; k_extra "SUBT2") | (with_reducible refine sub_left ?_; k_extra "SUBT2") | (with_reducible refine sub_cons ?_; k_extra "SUBT2")))
  (k_with "SUBM" => (((repeat' (first | exact sep_nil | refine sep_app ?_ ?_ | refine sep_cons ?_ ?_)); (all_goals first | k_extra "MEM" | k_extra "SUBT2"))))
  (k_with "SUB" => (((repeat' (first | exact sep_nil | refine sep_app ?_ ?_ | refine sep_cons ?_ ?_)); (all_goals first | k_mem | k_extra "MEM" | k_extra "SUBT2" | (simp only [List.mem_append, List.mem_cons, List.not_mem_nil, true_or, or_true, or_false, false_or]; done) | (intro _ hx9; simp only [hx9, List.mem_append, List.mem_cons, List.not_mem_nil, true_or, or_true, or_false, false_or]; done) | k_extra "SUBT"))))
  (k_with "exec For Name Name cons nil" => ((k_here; (with_unfolding_all refine' For_invVF ?kF ?k1 ?k2 ?_; (case kF => assumption); (case k1 => exact rfl); (case k2 => exact rfl); k_whole))))
  (k_with "exec For Name Call cons nil" => ((k_here; (with_unfolding_all refine' For_invVF ?kF ?k1 ?k2 ?_; (case kF => assumption); (case k1 => exact rfl); (case k2 => exact rfl); k_whole))))
  (k_with "exec For Name Subscript cons nil" => ((k_here; (with_unfolding_all refine' For_invVF ?kF ?k1 ?k2 ?_; (case kF => assumption); (case k1 => exact rfl); (case k2 => exact rfl); k_whole))))
  (k_with "exec For Name Attribute cons nil" => ((k_here; (with_unfolding_all refine' For_invVF ?kF ?k1 ?k2 ?_; (case kF => assumption); (case k1 => exact rfl); (case k2 => exact rfl); k_whole))))
  (k_with "KEEP" => (first | with_reducible assumption | exact DerV.keep (by with_reducible assumption) (Fr.keep (by with_reducible assumption)) | exact Sto.keep (by with_reducible assumption) (Fr.keep (by with_reducible assumption)) | exact Bok.keep (by with_reducible assumption) (Fr.keep (by with_reducible assumption)) | exact TupG.keep (by with_reducible assumption) (Fr.keep (by with_reducible assumption)) | exact ⟨_, by k_extra "GET"⟩ | exact ⟨_, _, _, _, rfl, by k_extra "GET"⟩ | assumption))
  trivial
theorem StrRow.length : ∀ {ts : List Str} {vs : List Value}, StrRow ts vs → vs.length = ts.length
  | _, _, .nil => rfl
  | _, _, .cons r => congrArg (· + 1) r.length
theorem StrRow.get : ∀ {ts : List Str} {vs : List Value}, StrRow ts vs → ∀ {i : Nat} {v}, vs[i]? = some v → ∃ t tok, ts[i]? = some t ∧ v = Value.str t tok
  | _, _, .cons r, 0, v, e => by cases e; exact ⟨_, _, rfl, rfl⟩
  | _, _, .cons r, i + 1, v, e => by
    obtain ⟨t, tok, a, b⟩ := r.get (i := i) (v := v) (by simpa using e)
    exact ⟨t, tok, by simpa using a, b⟩
section
variable {prog : Program} {w : World} {p : Program} {loose : List Str} {mean : ExcName → Option Value} {mg mb : Str → Option Value} {dp un : Nat} {gd : Option (List Code)} {cn : Str} {cs : Scope} {a : Addr} {ccd : Value} {cl : List (Str × Addr)} {outer : List Env} {A₀ : Around} {base h₀ : Heap} {L : Addr} {m : Str → Option Value} {s : Shared} {Q E : Value → Shared → Prop}
  (B : Below A₀ base outer h₀) (F : Fr h₀ L s.heap m) (X : (Mine.hd.heap_1 w.params).In h₀) (T : Top p loose mean mg mb h₀) (hk : cs.kind = .function) (hd : dp + 5 < recursionLimit) (hu : un + 100 < cLine)
include B F X T hk hd hu
theorem fixed_atoms_spec {news : List (Addr × Obj)} (N : News h₀ L s.heap news)
    (ret : ∀ h' tk' a' (vs : List Value) (n : Nat), StrRow atomRow vs → Fr h₀ L h' m → News h₀ L h' ((a', { cls := .type "tuple", data := .seq vs.toArray n }) :: news) → Q (.ref a') { s with heap := h', toks := tk' }) :
    wpAny (model prog w) (ktrTop dp un gd cn cs L a ccd cl outer) (call (.ref 60) []) Q E s := by
  have N0 : News h₀ L s.heap [] := News.nil
  have sep : ∀ q ∈ news, q.1 ∉ ([] : List (Addr × Obj)).map (·.1) := fun _ _ h => nomatch h
  k_dflt (refine' enterM (binds := []) ?k1 ?k2 ?k3 ?k4 ?kr ?ks ?k5 ?kK ?k8 ?k6 ?k7 ?k9 ?kB ?_ ?c2 ?c3 ?c4 ?c5; k_extra "ENTER")
  intro g L' h' tk F' N' B' X' T' hg
  (try dsimp only)
  k_extra "STEPS"
  show LeaveM _ _ _ _ _ _ _ _
  k_extra "LV"
  rename News h₀ L _ _ => N9
  refine ret _ _ _ _ _ ?_ (by with_reducible assumption) N9
  repeat (first | exact StrRow.nil | refine StrRow.cons ?_)
end
end Part18
section Part19
noncomputable def funcRow : List (Str × Int) := [(".", 2), (",", 2), (";", 2), ("->", 2), ("\\+", 1), (":-", 2), (":-", 1), ("?-", 1), ("-->", 2), ("{}", 1), ("=", 2), ("^", 2), ("-", 1), ("-", 2), ("+", 2), ("/", 2), ("error", 2), ("$VAR", 1), ("catch", 3), ("throw", 1), ("!", 0), ("true", 0), ("fail", 0), ("false", 0), ("call", 1), ("call", 2), ("call", 3), ("call", 4), ("call", 5), ("call", 6), ("call", 7), ("call", 8)].map fun p => (Str.ofString p.1, p.2)
noncomputable def pairO (t : Str) (k : Int) (t1 t2 : Tok) : Obj := { cls := .type "tuple", data := .seq #[.str t t1, .int k t2] 0 }
inductive PairRow (nt : List (Addr × Obj)) : List (Str × Int) → List Value → Prop where
  | nil : PairRow nt [] []
  | cons {t : Str} {k : Int} {t1 t2 : Tok} {a : Addr} {ts : List (Str × Int)} {vs : List Value} : (a, pairO t k t1 t2) ∈ nt → PairRow nt ts vs → PairRow nt ((t, k) :: ts) (.ref a :: vs)
theorem PairRow.length {nt : List (Addr × Obj)} : ∀ {ts : List (Str × Int)} {vs : List Value}, PairRow nt ts vs → vs.length = ts.length
  | _, _, .nil => rfl
  | _, _, .cons _ r => congrArg (· + 1) r.length
theorem PairRow.get {nt : List (Addr × Obj)} : ∀ {ts : List (Str × Int)} {vs : List Value}, PairRow nt ts vs → ∀ {i : Nat} {v}, vs[i]? = some v → ∃ t k t1 t2 a, ts[i]? = some (t, k) ∧ v = Value.ref a ∧ (a, pairO t k t1 t2) ∈ nt
  | _, _, .cons m r, 0, v, e => by cases e; exact ⟨_, _, _, _, _, rfl, rfl, m⟩
  | _, _, .cons m r, i + 1, v, e => by
    obtain ⟨t, k, t1, t2, a, p, q⟩ := r.get (i := i) (v := v) (by simpa using e)
    exact ⟨t, k, t1, t2, a, by simpa using p, q⟩
theorem PairRow.mono {nt nt' : List (Addr × Obj)} (s : ∀ x ∈ nt, x ∈ nt') : ∀ {ts : List (Str × Int)} {vs : List Value}, PairRow nt ts vs → PairRow nt' ts vs
  | _, _, .nil => .nil
  | _, _, .cons m r => .cons (s _ m) (r.mono s)
inductive PairLit : List PySem.Expr → List (Str × Int) → Prop where
  | nil : PairLit [] []
  | cons {t : Str} {k : Int} {k1 k2 k3 : Nat} {p1 p2 p3 : Pos} {es : List PySem.Expr} {ts : List (Str × Int)} : PairLit es ts → PairLit (.Tuple [.Constant (.str t) k1 p1, .Constant (.int k) k2 p2] k3 p3 :: es) ((t, k) :: ts)
theorem pair_args {prog : Program} {w : World} {A : Around} {E : Value → Shared → Prop} {env : Env} {h₀ : Heap} {L : Addr} {m : Str → Option Value} {pos : Pos} : ∀ {es : List PySem.Expr} {ts : List (Str × Int)}, PairLit es ts → ∀ {s : Shared} {news : List (Addr × Obj)} {Q : List Value → Shared → Prop},
    Fr h₀ L s.heap m → News h₀ L s.heap news → (∀ h' tk' nt vs, PairRow nt ts vs → (∀ q ∈ nt, q.2.cls = .type "tuple") → Fr h₀ L h' m → News h₀ L h' (nt ++ news) → Q vs { s with heap := h', toks := tk' }) →
    wpAny (model prog w) A (spliced (backTo pos (starEach es env))) Q E s
  | _, _, .nil, s, news, Q, F, N, ret => args_nil (ret s.heap s.toks [] [] .nil sep_nil F N)
  | _, _, .cons r, s, news, Q, F, N, ret => by
    refine args_cons (Tuple_ (args_cons (Constant_str (args_cons (wpAny_Constant_int (args_nil ?_))))))
    refine kup_newTuple F N (fun D h' F' N' _ => ?_) (show 2 ≤ sizeLine by decide)
    dsimp only
    refine pair_args r F' N' fun h2 tk2 nt vs hr ht F2 N2 => ?_
    rw [show ∀ x : Addr × Obj, nt ++ x :: news = (nt ++ [x]) ++ news from fun x => by simp] at N2
    dsimp only
    exact ret h2 tk2 _ _ (.cons (List.mem_append_right _ (.head _)) (hr.mono fun x hx => List.mem_append_left _ hx)) (sep_app ht (sep_cons rfl sep_nil)) F2 N2
section
variable {prog : Program} {w : World} {p : Program} {loose : List Str} {mean : ExcName → Option Value} {mg mb : Str → Option Value} {dp un : Nat} {gd : Option (List Code)} {cn : Str} {cs : Scope} {a : Addr} {ccd : Value} {cl : List (Str × Addr)} {outer : List Env} {A₀ : Around} {base h₀ : Heap} {L : Addr} {m : Str → Option Value} {s : Shared} {Q E : Value → Shared → Prop}
  (B : Below A₀ base outer h₀) (F : Fr h₀ L s.heap m) (X : (Mine.hd.heap_1 w.params).In h₀) (T : Top p loose mean mg mb h₀) (hk : cs.kind = .function) (hd : dp + 5 < recursionLimit) (hu : un + 100 < cLine)
include B F X T hk hd hu
theorem ln20 : True := by
  (k_with "spliced" => ((k_here; (with_reducible show wpAny _ _ (spliced (backTo _ (starEach (PySem.Expr.Tuple _ _ _ :: _) _))) _ _ _); refine stopHere ?_)))
  trivial
theorem fixed_functors_spec {news : List (Addr × Obj)} (N : News h₀ L s.heap news)
    (ret : ∀ h' tk' a' (vs : List Value) (n : Nat) nt, PairRow nt funcRow vs → (∀ q ∈ nt, q.2.cls = .type "tuple") → Fr h₀ L h' m → News h₀ L h' ((a', { cls := .type "tuple", data := .seq vs.toArray n }) :: (nt ++ news)) → Q (.ref a') { s with heap := h', toks := tk' }) :
    wpAny (model prog w) (ktrTop dp un gd cn cs L a ccd cl outer) (call (.ref 67) []) Q E s := by
  have N0 : News h₀ L s.heap [] := News.nil
  have sep : ∀ q ∈ news, q.1 ∉ ([] : List (Addr × Obj)).map (·.1) := fun _ _ h => nomatch h
  k_dflt (refine' enterM (binds := []) ?k1 ?k2 ?k3 ?k4 ?kr ?ks ?k5 ?kK ?k8 ?k6 ?k7 ?k9 ?kB ?_ ?c2 ?c3 ?c4 ?c5; k_extra "ENTER")
  intro g L' h' tk F' N' B' X' T' hg
  (try dsimp only)
  k_extra "STEPS"
  show wpAny _ _ _ _ _ _
  with_reducible refine pair_args (ts := funcRow) ?lit (by with_reducible assumption) (by with_reducible assumption) ?_
  case lit => repeat (first | exact PairLit.nil | refine PairLit.cons ?_)
  intro h2 tk2 nt vs hrow hnt F2 N2
  rw [List.append_nil] at N2
  have hl : vs.length = 32 := hrow.length
  clear F' N'
  (try dsimp only)
  show wpAny _ _ _ _ _ _
  with_reducible refine kup_newTuple F2 N2 (fun D9 h3 F3 N3 _ => ?_) (by rw [hl]; decide)
  clear F2 N2
  (try dsimp only)
  k_extra "STEPS"
  show LeaveM _ _ _ _ _ _ _ _
  k_extra "LV"
  exact ret _ _ _ _ _ nt hrow hnt (by with_reducible assumption) (by assumption)
end
end Part19
section Part20
theorem ln21 : True := by
  k_with_none
  (k_with "LIT0" => (first | with_reducible assumption | ((first | (with_reducible show @LE.le Nat _ (OfNat.ofNat _) (OfNat.ofNat _)) | (with_reducible show @LT.lt Nat _ (OfNat.ofNat _) (OfNat.ofNat _))); exact Nat.le_of_ble_eq_true rfl)))
  (k_with "LIT1" => (first | with_reducible assumption | (with_reducible refine' Nat.lt_of_lt_of_le ?ha ?hb; (case ha => with_reducible assumption); (case hb => k_extra "LIT0")) | (with_reducible refine' Nat.lt_of_le_of_lt ?ha ?hb; (case ha => with_reducible assumption); (case hb => k_extra "LIT0")) | (with_reducible refine' Nat.le_trans ?ha ?hb; (case ha => with_reducible assumption); (case hb => k_extra "LIT0")) | (with_reducible refine' Nat.le_of_lt (Nat.lt_of_lt_of_le ?ha ?hb); (case ha => with_reducible assumption); (case hb => k_extra "LIT0")) | (with_reducible refine' Nat.lt_of_le_of_lt (Nat.le_of_eq ?ha) ?hb; (case ha => with_reducible assumption); (case hb => k_extra "LIT0")) | (with_reducible refine' Nat.le_trans (Nat.le_of_eq ?ha) ?hb; (case ha => with_reducible assumption); (case hb => k_extra "LIT0"))))
  (k_with "LIT2" => (first | with_reducible assumption | (with_reducible refine' Nat.lt_of_lt_of_le ?ha ?hb; (case ha => with_reducible assumption); (case hb => k_extra "LIT1")) | (with_reducible refine' Nat.lt_of_le_of_lt ?ha ?hb; (case ha => with_reducible assumption); (case hb => k_extra "LIT1")) | (with_reducible refine' Nat.le_trans ?ha ?hb; (case ha => with_reducible assumption); (case hb => k_extra "LIT1")) | (with_reducible refine' Nat.le_of_lt (Nat.lt_of_lt_of_le ?ha ?hb); (case ha => with_reducible assumption); (case hb => k_extra "LIT1")) | (with_reducible refine' Nat.lt_of_le_of_lt (Nat.le_of_eq ?ha) ?hb; (case ha => with_reducible assumption); (case hb => k_extra "LIT1")) | (with_reducible refine' Nat.le_trans (Nat.le_of_eq ?ha) ?hb; (case ha => with_reducible assumption); (case hb => k_extra "LIT1"))))
  (k_with "OM" => (first | with_reducible assumption | with_reducible exact Int.natCast_nonneg _ | with_reducible exact Int.ofNat_lt.mpr (by with_reducible assumption) | with_reducible exact i63 (by k_extra "LIT2") | k_extra "LIT2" | omega))
  (k_with "LTC" => (first | with_reducible assumption | (refine' Nat.lt_trans ?ha ?hb; (case ha => with_reducible assumption); (case hb => k_extra "LTC"))))
  (k_with "NEC" => ((refine neN ?_; (try dsimp only); first | (refine' Nat.ne_of_lt ?hc; (case hc => k_extra "LTC")) | (refine' Nat.ne_of_gt ?hc; (case hc => k_extra "LTC")) | omega)))
  (k_with "ROOMN" => (first | (refine' roomN ?ha (Nat.add_assoc _ _ _) ?hb; (case ha => with_reducible assumption); (case hb => exact rfl)) | (refine' roomN ?ha rfl ?hb; (case ha => with_reducible assumption); (case hb => exact rfl)) | (refine' roomN ?ha ((Nat.add_assoc _ _ _).trans (Nat.add_assoc _ _ _)) ?hb; (case ha => with_reducible assumption); (case hb => exact rfl)) | exact Nat.lt_of_le_of_lt (Nat.le_add_right _ _) (by with_reducible assumption)))
  (k_with "MKUNITS" => (first | k_extra "ROOMN" | ktr_units))
  (k_with "MKNE" => (first | k_extra "NEC" | ((try dsimp only); assumption) | ((try dsimp only); exact Ne.symm (by assumption)) | ((try dsimp only); exact News.ne (by with_reducible assumption) (by k_mem) (by k_mem) (ne_typ rfl))))
  (k_with "MKALL" => (first | assumption | exact List.forall_mem_nil _ | (refine' List.forall_mem_cons.mpr ⟨?a, ?b⟩; (case a => k_ne); (case b => k_all))))
  (k_with "GET" => (first | exact Fr.keep (by with_reducible assumption) _ _ (by with_reducible assumption) | exact News.get (by with_reducible assumption) (by k_mem)))
  (k_with "MKINST" => (exact instG (by k_extra "GET") (by k_extra "GET")))
  (k_with "MISLIST" => (exact isListG (by k_extra "GET")))
  (k_with "ENTER" => (((case ks => assumption); (case k1 => assumption); (case k2 => assumption); (case k3 => assumption); (case k4 => assumption); (case kr => assumption); (case k5 => assumption); (case kK => assumption); (case k8 => first | k_extra "ROOMN" | ktr_room); (case k6 => k_is); (case k7 => k_is); (case k9 => exact BindsTo.of_eq rfl); (case kB => exact locs rfl); (case c2 => exact rfl); (case c3 => exact rfl); (case c4 => exact rfl); (case c5 => decide))))
  (k_with "subscriptTail" => ((k_here; (with_reducible show wpAny _ _ (subscriptTail _ _ (Value.ref _) (Value.int _ _)) _ _ _); k_dflt (refine' item_list ?k1 ?k2 ?k3 ?k4 ?_; (case k1 => is_list); (case k4 => assumption); (case k2 => k_extra "OM"); (case k3 => k_extra "OM")))))
  (k_with "subscriptTail" => ((k_here; (with_reducible show wpAny _ _ (subscriptTail _ _ (Value.ref _) (Value.int 1 _)) _ _ _); k_dflt (refine' item_tup1 ?k1 ?_; (case k1 => k_extra "GET")))))
  (k_with "subscriptTail" => ((k_here; (with_reducible show wpAny _ _ (subscriptTail _ _ (Value.ref _) (Value.int 0 _)) _ _ _); k_dflt (refine' item_tup0 ?k1 ?_; (case k1 => k_extra "GET")))))
  (k_with "compareOp Eq ref ref" => ((k_here; (with_reducible show wpAny _ _ (compareOp CmpOp.Eq (Value.ref _) (Value.ref _)) _ _ _); k_dflt (refine' eq_tup ?k1 ?k2 ?k3 ?_; (case k1 => k_extra "GET"); (case k2 => k_extra "GET"); (case k3 => k_units)))))
  (k_with "ite" => (first | (refine ite_pos ?c ?_; (case c => ((try simp only [decide_eq_true_eq, beq_iff_eq, Bool.not_eq_true', decide_eq_false_iff_not, ne_eq]); first | assumption | omega))) | (refine ite_neg ?c ?_; (case c => ((try simp only [decide_eq_true_eq, beq_iff_eq, Bool.not_eq_true', decide_eq_false_iff_not, ne_eq]); first | assumption | omega)))))
  (k_with "execs cons" => (((with_reducible refine wpAny_execs_cons ?_); (try dsimp only); k_fold)))
  (k_with "STEPS" => (((try k_fold); (repeat' (first | walk1 | (k_unfold; (try dsimp only)) | (dsimp only; walk1))); (all_goals (try dsimp only)))))
  (k_with "LV" => (((try dsimp only [WhileStep2]); refine' LeaveM.mk ?k1 ?k2 ?_; (case k1 => with_reducible assumption); (case k2 => with_reducible assumption); intro _ nK; (try dsimp only [List.nil_append, List.cons_append] at nK); revert nK; intro _; (try dsimp only))))
  (k_with "ROOM" => (first | k_extra "ROOMN" | (simp only [recursionLimit, cLine] at *; omega)))
  (k_with "CTX" => (((case B => with_reducible assumption); (case F => with_reducible assumption); (case X => with_reducible assumption); (case T => with_reducible assumption); (case hk => first | exact rfl | assumption); (case hd => k_extra "ROOM"); (case hu => k_extra "ROOM"); (case N => with_reducible assumption))))
  (k_with "KEEP" => (first | with_reducible assumption | exact DerV.keep (by with_reducible assumption) (Fr.keep (by with_reducible assumption)) | exact Sto.keep (by with_reducible assumption) (Fr.keep (by with_reducible assumption)) | exact Bok.keep (by with_reducible assumption) (Fr.keep (by with_reducible assumption)) | exact TupG.keep (by with_reducible assumption) (Fr.keep (by with_reducible assumption)) | exact ⟨_, by k_extra "GET"⟩ | exact ⟨_, _, _, _, rfl, by k_extra "GET"⟩ | assumption))
  (k_with "AFTER" => (((try dsimp only); (try k_sweep))))
  (k_with "call builtin:len" => ((k_here; (with_reducible show wpAny _ _ (call (Value.builtin "len") [Value.ref _]) _ _ _); k_dflt (refine' len_any ?k1 ?k2 ?_; (case k1 => is_list); (case k2 => first | with_reducible assumption | ((try simp only [List.length_append, List.length_cons, List.length_nil, List.length_set]); omega))))))
  (k_with "call builtin:list.append" => ((k_here; (with_reducible show wpAny _ _ (call (Value.builtin _) [Value.ref _, _]) _ _ _); k_dflt (refine' append_any ?k1 ?k2 ?k3 ?_ ?z; (case k1 => k_asm); (case k2 => k_asm); (case k3 => k_upd); (case z => first | with_reducible assumption | ((try simp only [List.length_append, List.length_cons, List.length_nil, List.length_set]); omega)); k_whole); intro _ _ _; (try k_sweep))))
  (k_with "setItem ref int" => ((k_here; (with_reducible show wpAny _ _ (setItem (Value.ref _) (Value.int _ _) _) _ _ _); k_dflt (refine' set_any ?k1 ?k2 ?k3 ?k4 ?k5 ?k6 ?_; (case k1 => k_asm); (case k2 => k_asm); (case k3 => k_upd); (case k4 => k_extra "OM"); (case k5 => first | with_reducible assumption | ((try simp only [List.length_append, List.length_cons, List.length_nil, List.length_set]); omega)); (case k6 => k_extra "OM"); k_whole); intro _ _ _; (try k_sweep))))
  (k_with "CTX2" => (((case B => with_reducible assumption); (case F => with_reducible assumption); (case X => with_reducible assumption); (case T => with_reducible assumption); (case hk => first | exact rfl | assumption); (case hd => k_extra "ROOM"); (case hu => k_extra "ROOM"))))
  (k_with "SEP" => (((repeat' (first | assumption | exact sep_nil | refine sep_app ?_ ?_ | refine sep_cons ?_ ?_)); (all_goals ((repeat' (first | exact nmNil | refine nmCons ?_ ?_)); all_goals first | assumption | k_extra "NEC" | exact Ne.symm (by assumption) | exact News.ne (by with_reducible assumption) (by k_mem) (by k_mem) (ne_typ rfl))))))
  (k_with "SPLIT1" => (first | (refine' News.at0 ?n; (case n => with_reducible assumption)) | (refine' News.at1 ?n; (case n => with_reducible assumption)) | (refine' News.at2 ?n; (case n => with_reducible assumption)) | (refine' News.at3 ?n; (case n => with_reducible assumption)) | (refine' News.at4 ?n; (case n => with_reducible assumption)) | (refine' News.at5 ?n; (case n => with_reducible assumption)) | (refine' News.at6 ?n; (case n => with_reducible assumption))))
  (k_with "pyIter ref" => (refine stopHere ?_))
  (k_with "SEPI" => (((repeat' (first | assumption | exact sep_nil | refine sep_app ?_ ?_ | refine sep_cons ?_ ?_)); (all_goals ((try dsimp only); first | assumption | k_extra "NEC" | exact Ne.symm (by assumption))))))
  (k_with "SUBT" => (first | exact sub_refl | (refine sub_cons ?_; k_extra "SUBT") | (refine sub_right ?_; k_extra "SUBT") | (refine sub_left ?_; k_extra "SUBT")))
  (k_with "MEM" => (first | exact memH | (with_reducible refine List.mem_append_right _ ?_; k_extra "MEM") | (with_reducible refine List.mem_append_left _ ?_; k_extra "MEM") | (with_reducible refine memT ?_; k_extra "MEM")))
  (k_with "SUBT2" => (first | exact sub_refl | (with_reducible refine sub_right ?_; k_extra "SUBT2") | (with_reducible refine sub_left ?_; k_extra "SUBT2") | (with_reducible refine sub_cons ?_; k_extra "SUBT2")))
  (k_with "SUBM" => (((repeat' (first | exact sep_nil | refine sep_app ?_ ?_ | refine sep_cons ?_ ?_)); (all_goals first | k_extra "MEM" | k_extra "SUBT2"))))
  (k_with "SUB" => (((repeat' (first | exact sep_nil | refine sep_app ?_ ?_ | refine sep_cons ?_ ?_)); (all_goals first | k_mem | k_extra "MEM" | k_extra "SUBT2" | (simp only [List.mem_append, List.mem_cons, List.not_mem_nil, true_or, or_true, or_false, false_or]; done) | (intro _ hx9; simp only [hx9, List.mem_append, List.mem_cons, List.not_mem_nil, true_or, or_true, or_false, false_or]; done) | k_extra "SUBT"))))
  (k_with "exec For Name Name cons nil" => ((k_here; (with_unfolding_all refine' For_invVF ?kF ?k1 ?k2 ?_; (case kF => assumption); (case k1 => exact rfl); (case k2 => exact rfl); k_whole))))
  (k_with "exec For Name Call cons nil" => ((k_here; (with_unfolding_all refine' For_invVF ?kF ?k1 ?k2 ?_; (case kF => assumption); (case k1 => exact rfl); (case k2 => exact rfl); k_whole))))
  (k_with "exec For Name Subscript cons nil" => ((k_here; (with_unfolding_all refine' For_invVF ?kF ?k1 ?k2 ?_; (case kF => assumption); (case k1 => exact rfl); (case k2 => exact rfl); k_whole))))
  (k_with "exec For Name Attribute cons nil" => ((k_here; (with_unfolding_all refine' For_invVF ?kF ?k1 ?k2 ?_; (case kF => assumption); (case k1 => exact rfl); (case k2 => exact rfl); k_whole))))
  (k_with "KEEP" => (first | with_reducible assumption | exact DerV.keep (by with_reducible assumption) (Fr.keep (by with_reducible assumption)) | exact Sto.keep (by with_reducible assumption) (Fr.keep (by with_reducible assumption)) | exact Bok.keep (by with_reducible assumption) (Fr.keep (by with_reducible assumption)) | exact TupG.keep (by with_reducible assumption) (Fr.keep (by with_reducible assumption)) | exact ⟨_, by k_extra "GET"⟩ | exact ⟨_, _, _, _, rfl, by k_extra "GET"⟩ | assumption))
  (k_with "call ref" => ((k_here; (with_reducible show wpAny _ _ (call (Value.ref 88) _) _ _ _); refine stopHere ?_)))
  (k_with "call ref" => ((k_here; (with_reducible show wpAny _ _ (call (Value.ref 109) _) _ _ _); refine stopHere ?_)))
  (k_with "call ref" => ((k_here; (with_reducible show wpAny _ _ (call (Value.ref 60) _) _ _ _); refine stopHere ?_)))
  (k_with "call ref" => ((k_here; (with_reducible show wpAny _ _ (call (Value.ref 67) _) _ _ _); refine stopHere ?_)))
  trivial
theorem enterC {prog : Program} {w : World} {A₀ : Around} {s : Shared} {base h₀ : Heap} {outer : List Env} {L : Addr} {m mg mb : Str → Option Value} {K : Frag} {p : Program} {loose : List Str} {mean : ExcName → Option Value}
    {dp un : Nat} {gd : Option (List Code)} {cn : Str} {cs : Scope} {a : Addr} {ccd : Value} {cl : List (Str × Addr)} {Q E : Value → Shared → Prop}
    {name qual : Str} {params : Arguments} {body : List Stmt} {scope : Scope} {dV kV doc pm cdv ct oc : Value} {an od : Option Addr} {osl : Array (Option Value)} {f : Addr} {vs : List Value} {binds : List (Str × Value)} {loc rest : List (Addr × Obj)}
    (B : Below A₀ base outer h₀) (F : Fr h₀ L s.heap m) (X₀ : K.In h₀) (N : News h₀ L s.heap loc) (NR : News h₀ L s.heap rest) (sep : ∀ q ∈ rest, q.1 ∉ loc.map (·.1)) (T : Top p loose mean mg mb h₀)
    (hke : cs.kind = .function) (hroom : dp < recursionLimit)
    (ho : K.lookup f = some ⟨oc, od, .func (fnOf name qual params body scope dV kV doc pm an cdv ct), osl⟩) (hcd : codeIn K cdv qual = true)
    (hbind : BindsTo s (fnOf name qual params body scope dV kV doc pm an cdv ct) ⟨vs, []⟩ binds) (hloc : ∀ y ∈ binds, scope.names.lookup y.1 = some .local)
    (h : ∀ g L' h₁ tk, Fr g L' h₁ (fun y => binds.reverse.lookup y) → News g L' h₁ loc → Below (ktrTop dp un gd cn cs L a ccd cl outer) base (envX cn cs L a ccd cl :: outer) g → K.In g → Top p loose mean mg mb g → (∀ b o, s.heap.get? b = some o → b ∉ loc.map (·.1) → g.get? b = some o) →
      wpAny (model prog w) (ktrTop (dp + 1) (un + 3) gd qual scope L' f cdv [] (envX cn cs L a ccd cl :: outer)) (execs body (envOf qual scope L' f cdv))
        (fun fl s' => LeaveM h₀ L m g rest Q (match fl with | .ret v => v | _ => .none) s')
        (fun _ _ => False)
        { s with heap := h₁, toks := tk })
    (hco : scope.isCoroutine = false) (hgen : scope.isGenerator = false) (hk : scope.kind = .function)
    (hcell : ∀ x ∈ scope.names, x.2 ≠ .cell) : codeAny (model prog w) (ktrTop dp un gd cn cs L a ccd cl outer) (.call (.ref f) ⟨vs, []⟩) (fun r s' => match r with | .ok (.ret v) => Q v s' | .ok _ => False | .error e => E e s') s := by
  refine enterR B F X₀ N NR sep T rfl rfl hke ho hcd hroom hbind hloc (fun g L' h₁ tk FG F' N' B' X' T' hg => ?_) hco hgen hk hcell
  refine wpAny_mono (h g L' h₁ tk F' N' B' X' T' hg) (fun fl s' hl => ?_) fun _ _ e => e.elim
  obtain ⟨L₁, m', loc', F₁, N₁, k⟩ := hl
  refine ⟨L₁, m', loc', F₁, N₁, fun kF kN kR => k kF (News.app kN kR)⟩
/-- a class of the program is called: the object is laid, then its __init__ runs -/
theorem make_any {prog : Program} {w : World} {s : Shared} {h₀ : Heap} {outer : List Env} {L : Addr} {m : Str → Option Value} {K : Frag}
    {dp un : Nat} {gd : Option (List Code)} {cn : Str} {cs : Scope} {a : Addr} {ccd : Value} {cl : List (Str × Addr)} {Q E : Value → Shared → Prop} {C fI : Addr} {pos : List Value} {news : List (Addr × Obj)}
    (F : Fr h₀ L s.heap m) (X₀ : K.In h₀) (N : News h₀ L s.heap news) (hm : makesIn K C = true) (hi : findIn K (.ref C) "__init__" = some (some (.ref fI))) (hf : isFn K (.ref fI) = true)
    (h : ∀ x dx h', Fr h₀ L h' m → News h₀ L h' ((x, instObj C dx) :: (dx, dictOf [] 0) :: news) → (∀ p ∈ news, p.1 < dx) → dx < x →
      codeAny (model prog w) (ktrTop (dp + 1) (un + 1) gd cn cs L a ccd cl outer) (.call (.ref fI) ⟨.ref x :: pos, []⟩) (fun r s' => match r with | .ok (.ret v) => v = .none ∧ Q (.ref x) s' | .ok _ => False | .error e => E e s') { s with heap := h' }) :
    wpAny (model prog w) (ktrTop dp un gd cn cs L a ccd cl outer) (call (.ref C) pos) Q E s := by
  refine call_cls F X₀ N hm hi hf fun x dx h' F' N' l1 l2 => codeAny_mono (h x dx h' F' N' l1 l2) fun r s' z => ?_
  rcases r with e | (v | _ | _ | _) <;> first | exact z | exact z.elim
theorem IsDictT.nil {prog : Program} {w : World} {o : Obj} (h : o.IsDictOf (PySem.intKind prog w) []) : IsDictT prog w o [] := by
  obtain ⟨es, ep, a, b, _, c, _⟩ := h
  have : es.toList = [] := by
    have := c.length
    exact List.length_eq_zero_iff.mp (by simpa using this)
  exact ⟨es, ep, a, b, by rw [this]; rfl, List.nodup_nil⟩
theorem AtomsP.nil {prog : Program} {w : World} {o : Obj} (h : o.IsDictOf (PySem.strKind prog w) []) : AtomsP prog w [] [] o := ⟨[], h, rfl, rfl, fun _ h => absurd h (by simp), fun _ _ => rfl⟩
theorem FunsP.nil {prog : Program} {w : World} {Tp : Value → Int × Int → Prop} {o : Obj} (h : o.IsDictOf (PySem.intKind prog w) []) : FunsP prog w Tp [] [] o := ⟨[], .nil h, .nil, rfl, fun _ h => absurd h (by simp), fun _ _ => rfl, fun _ h => absurd h (by simp)⟩
theorem putL_len {α : Type} [DecidableEq α] : ∀ (xs l : List α), (xs.foldl putL l).length ≤ l.length + xs.length
  | [], l => by simp
  | x :: xs, l => by
    have := putL_len xs (putL l x)
    have h : (putL l x).length ≤ l.length + 1 := by unfold putL; split <;> simp
    simp only [List.foldl_cons, List.length_cons] at this ⊢
    omega
inductive J1I (a' bk dbk TX AN FL FN : Addr) (vs : List Value) (n : Nat) (kk : Nat → Tok) (oF : Obj) (prog : Program) (w : World) (i : Nat) (m : Str → Option Value) (news : List (Addr × Obj)) : Prop where
  | mk (ts : List Value) (n1 : Nat) (oA : Obj) (ag : Agree m [(Str.ofString "self", .ref bk)]) (e : news = [(a', { cls := .type "tuple", data := .seq vs.toArray n }), (TX, listOf ts.toArray n1), (AN, oA), (FL, listOf [].toArray 0), (FN, oF), (bk, instObj 154 dbk), (dbk, dictOf (bkE w.params TX AN FL FN kk) 4)])
    (hA : AtomsP prog w ((atomRow.take i).foldl putL []) ts oA) : J1I a' bk dbk TX AN FL FN vs n kk oF prog w i m news
section
variable {prog : Program} {w : World} {A : Around} {E : Value → Shared → Prop} {s : Shared} {a : Addr} {x : Str} {k : Int} {t1 t2 : Tok}
theorem item_pair0 {value slice : PySem.Expr} {u : Tok} {Q : Value → Shared → Prop} (ht : s.heap.get? a = some (pairO x k t1 t2)) (h : Q (.str x t1) s)
    (hs : subscripted slice false (.ref a) (.int 0 u) = operate [.ref a, .int 0 u] (getItem (.ref a) (.int 0 u)) := by with_unfolding_all rfl) :
    wpAny (model prog w) A (subscriptTail value slice (.ref a) (.int 0 u)) Q E s :=
  item_tupleT (l := [.str x t1, .int k t2]) ⟨_, ht, rfl, _, rfl⟩ (by decide) (by decide) (by rfl) rfl h hs
theorem item_pair1 {value slice : PySem.Expr} {u : Tok} {Q : Value → Shared → Prop} (ht : s.heap.get? a = some (pairO x k t1 t2)) (h : Q (.int k t2) s)
    (hs : subscripted slice false (.ref a) (.int 1 u) = operate [.ref a, .int 1 u] (getItem (.ref a) (.int 1 u)) := by with_unfolding_all rfl) :
    wpAny (model prog w) A (subscriptTail value slice (.ref a) (.int 1 u)) Q E s :=
  item_tupleT (l := [.str x t1, .int k t2]) ⟨_, ht, rfl, _, rfl⟩ (by decide) (by decide) (by rfl) rfl h hs
end
theorem ln22 : True := by
  (k_with "subscriptTail" => ((k_here; (with_reducible show wpAny _ _ (subscriptTail _ _ (Value.ref _) (Value.int 1 _)) _ _ _); k_dflt (refine' item_pair1 ?k1 ?_; (case k1 => with_reducible assumption)))))
  (k_with "subscriptTail" => ((k_here; (with_reducible show wpAny _ _ (subscriptTail _ _ (Value.ref _) (Value.int 0 _)) _ _ _); k_dflt (refine' item_pair0 ?k1 ?_; (case k1 => with_reducible assumption)))))
  trivial
theorem putL_len1 {α : Type} [DecidableEq α] (l : List α) (x : α) : (putL l x).length ≤ l.length + 1 := by
  unfold putL
  split <;> simp
noncomputable def putF (b : List Str × List (Int × Int)) (r : Str × Int) : List Str × List (Int × Int) := (putL b.1 r.1, putL b.2 (((ixL (putL b.1 r.1) r.1 : Nat) : Int), r.2))
theorem putF_len : ∀ (xs : List (Str × Int)) (b : List Str × List (Int × Int)), (xs.foldl putF b).1.length ≤ b.1.length + xs.length ∧ (xs.foldl putF b).2.length ≤ b.2.length + xs.length
  | [], b => by simp
  | x :: xs, b => by
    have := putF_len xs (putF b x)
    have h : (putF b x).1.length ≤ b.1.length + 1 := putL_len1 _ _
    have h2 : (putF b x).2.length ≤ b.2.length + 1 := putL_len1 _ _
    simp only [List.foldl_cons, List.length_cons] at this ⊢
    omega
inductive J2I (b' bk dbk TX AN FL FN : Addr) (ws : List Value) (n : Nat) (kk : Nat → Tok) (T0 : List Str) (nt0 : List (Addr × Obj)) (prog : Program) (w : World) (i : Nat) (m : Str → Option Value) (news : List (Addr × Obj)) : Prop where
  | mk (ts : List Value) (n1 : Nat) (oA : Obj) (fs : List Value) (n2 : Nat) (oF : Obj) (nt : List (Addr × Obj)) (ag : Agree m [(Str.ofString "self", .ref bk)]) (e : news = (b', { cls := .type "tuple", data := .seq ws.toArray n }) :: (TX, listOf ts.toArray n1) :: (AN, oA) :: (FL, listOf fs.toArray n2) :: (FN, oF) :: (bk, instObj 154 dbk) :: (dbk, dictOf (bkE w.params TX AN FL FN kk) 4) :: (nt0 ++ nt))
    (hA : AtomsP prog w ((funcRow.take i).foldl putF (T0, [])).1 ts oA) (hF : FunsP prog w (TupL nt) ((funcRow.take i).foldl putF (T0, [])).2 fs oF) (ht : ∀ q ∈ nt, q.2.cls = .type "tuple") : J2I b' bk dbk TX AN FL FN ws n kk T0 nt0 prog w i m news
theorem FunsP.mono {prog : Program} {w : World} {Tp Tq : Value → Int × Int → Prop} {F : List (Int × Int)} {fs : List Value} {oF : Obj} (hm : ∀ v c, Tp v c → Tq v c) (h : FunsP prog w Tp F fs oF) : FunsP prog w Tq F fs oF := by
  obtain ⟨xs, a, b, c, d, e, f⟩ := h
  exact ⟨xs, a, b.mono hm, c, d, e, fun x hx => by obtain ⟨c, p, q⟩ := f x hx; exact ⟨c, p, hm _ _ q⟩⟩
section
variable {prog : Program} {w : World} {p : Program} {loose : List Str} {mean : ExcName → Option Value} {mg mb : Str → Option Value} {dp un : Nat} {gd : Option (List Code)} {cn : Str} {cs : Scope} {a : Addr} {ccd : Value} {cl : List (Str × Addr)} {outer : List Env} {A₀ : Around} {base h₀ : Heap} {L : Addr} {m : Str → Option Value} {s : Shared} {Q E : Value → Shared → Prop}
  (B : Below A₀ base outer h₀) (F : Fr h₀ L s.heap m) (X : (Mine.hd.heap_1 w.params).In h₀) (T : Top p loose mean mg mb h₀) (hk : cs.kind = .function) (hd : dp + 15 < recursionLimit) (hu : un + 300 < cLine)
include B F X T hk hd hu
theorem init_walk {pre post : List (Addr × Obj)} {bk dbk : Addr}
    (N : News h₀ L s.heap (pre ++ ([(bk, instObj 154 dbk), (dbk, dictOf [] 0)] ++ post))) (sep : ∀ q ∈ pre ++ post, q.1 ∉ [(bk, instObj 154 dbk), (dbk, dictOf [] 0)].map (·.1)) (hne : ¬ bk = dbk) (lo : (dbk == sysModules) = false)
    (ret : ∀ h' tk' TX AN FL FN kk ts n1 oA fs n2 oF nt, AtomsP prog w (funcRow.foldl putF (atomRow.foldl putL [], [])).1 ts oA → FunsP prog w (TupL nt) (funcRow.foldl putF (atomRow.foldl putL [], [])).2 fs oF → (∀ q ∈ nt, q.2.cls = .type "tuple") → (AN == sysModules) = false → (FN == sysModules) = false →
      dbk < TX → bk < TX → TX < AN → AN < FL → FL < FN → (∀ q ∈ pre ++ post, ¬ q.1 = TX ∧ ¬ q.1 = AN ∧ ¬ q.1 = FL ∧ ¬ q.1 = FN) → (∀ q ∈ nt, ∀ p ∈ pre ++ post, q.1 ≠ p.1) → Fr h₀ L h' m → News h₀ L h' (pre ++ (([(TX, listOf ts.toArray n1), (AN, oA), (FL, listOf fs.toArray n2), (FN, oF), (bk, instObj 154 dbk), (dbk, dictOf (bkE w.params TX AN FL FN kk) 4)] ++ nt) ++ post)) → Q .none { s with heap := h', toks := tk' }) :
    codeAny (model prog w) (ktrTop dp un gd cn cs L a ccd cl outer) (.call (.ref 81) ⟨[.ref bk], []⟩) (fun r s' => match r with | .ok (.ret v) => Q v s' | .ok _ => False | .error e => E e s') s := by
  have N0 := News.loc N
  have NR := News.others N
  k_dflt (refine' enterC (binds := [(Str.ofString "self", .ref bk)]) ?k1 ?k2 ?k3 ?k4 ?kr ?ks ?k5 ?kK ?k8 ?k6 ?k7 ?k9 ?kB ?_ ?c2 ?c3 ?c4 ?c5; k_extra "ENTER")
  intro g L' h' tk F' N' B' X' T' hg
  (try dsimp only)
  k_extra "STEPS"
  rename_i TX _ lT _ _ _ AN _ oA loA hsA _ _ _ lA _ _ _ FL _ lF _ _ _ FN _ oF loF _ _ hiF _ lN _ F' N'
  have hA0 := AtomsP.nil hsA
  have hF0 := FunsP.nil (Tp := TupL []) hiF
  show wpAny _ _ _ _ _ _
  (try dsimp only)
  k_dflt (refine' fixed_atoms_spec ?B ?F ?X ?T ?hk ?hd ?hu ?N ?_; k_extra "CTX")
  intro h' tk' a' vs n hrow F' N'
  k_extra "AFTER"
  obtain ⟨kk, N9⟩ : ∃ kk : Nat → Tok, News g L' h' [(a', { cls := .type "tuple", data := .seq vs.toArray n }), (TX, listOf [].toArray 0), (AN, oA), (FL, listOf [].toArray 0), (FN, oF), (bk, instObj 154 dbk), (dbk, dictOf (bkE w.params TX AN FL FN kk) 4)] :=
    ⟨fun i => match i with | 0 => _ | 1 => _ | 2 => _ | _ => _, News.sub (b := [_, _, _, _, _, _, _]) N' (by k_extra "SUB")⟩
  clear N'
  have nAT : ¬ a' = TX := News.ne N9 (.head _) (.tail _ (.head _)) (ne_typ rfl)
  have nAA : ¬ a' = AN := News.ne N9 (.head _) (.tail _ (.tail _ (.head _))) (by rw [hA0.cls]; exact ne_typ rfl)
  refine for_tup (L := L') (ol := { cls := .type "tuple", data := .seq vs.toArray n }) (k := n) (vs := vs) (J1I a' bk dbk TX AN FL FN vs n kk oF prog w) rfl rfl rfl rfl (.inr ?_) (by assumption) N9 ⟨[], 0, oA, .cons rfl .nil, rfl, hA0⟩ ?_ ?_
  · intro i m news hR3; obtain ⟨ts, n1, oA', ag, rfl, hA⟩ := hR3
    exact .head _
  · intro i v m₁ news₁ h₁ tk₁ I oI hi hR9 hne cI F₁ N₁; obtain ⟨ts, n1, oA', ag, rfl, hA⟩ := hR9
    rw [ag.form] at F₁
    obtain ⟨t, tok, e9, rfl⟩ := hrow.get hi
    have nI1 : ¬ TX = I := hne _ (.tail _ (.head _))
    have nI2 : ¬ AN = I := hne _ (.tail _ (.tail _ (.head _)))
    have nI3 : ¬ a' = I := hne _ (.head _)
    have nI4 : ¬ FL = I := hne _ (.tail _ (.tail _ (.tail _ (.head _))))
    have nI5 : ¬ FN = I := hne _ (.tail _ (.tail _ (.tail _ (.tail _ (.head _)))))
    have nI6 : ¬ bk = I := hne _ (.tail _ (.tail _ (.tail _ (.tail _ (.tail _ (.head _))))))
    have nI7 : ¬ dbk = I := hne _ (.tail _ (.tail _ (.tail _ (.tail _ (.tail _ (.tail _ (.head _)))))))
    clear ag
    k_sweep
    (try dsimp only)
    k_extra "STEPS"
    have hlen : ((atomRow.take i).foldl putL []).length ≤ 80000 := by
      have := hA
      obtain ⟨_, _, _, _, _⟩ := this
      exact Nat.le_trans (putL_len _ _) (by simp [atomRow]; omega)
    show wpAny _ _ _ _ _ _
    k_dflt (refine' atom_spec ?B ?F ?X ?T ?hk ?hd ?hu ?N ?sep ?hTA ?hA ?lo ?hbk ?hdbk ?a1 ?a2 ?a3 ?a4 ?hl ?_; k_extra "CTX2"; (case N => exact News.two2 N₁); (case sep => k_extra "SEP"); (case hTA => refine neN ?_; omega); (case hA => exact hA); (case lo => assumption); (case hbk => k_extra "GET"); (case hdbk => k_extra "GET"); (case a1 => refine neN ?_; omega); (case a2 => refine neN ?_; omega); (case a3 => refine neN ?_; omega); (case a4 => refine neN ?_; omega); (case hl => exact hlen))
    intro h' tk' t1 ts' n1' oA2 hA2 F' N'
    k_extra "AFTER"
    k_extra "STEPS"
    (try dsimp only [List.nil_append, List.cons_append] at N')
    have e8 : (atomRow.take (i + 1)).foldl putL [] = putL ((atomRow.take i).foldl putL []) t := by
      rw [List.take_add_one, e9, List.foldl_append]
      rfl
    exact TurnJ.next (by assumption) N' (by k_extra "SEPI") ⟨ts', n1', oA2, .cons rfl .nil, rfl, e8 ▸ hA2⟩
  · intro m₁ news₁ h₁ tk₁ hR4 F₁ N₁; obtain ⟨ts, n1, oA', ag, rfl, hA⟩ := hR4
    rw [ag.form] at F₁
    have hlen := hrow.length
    rw [List.take_of_length_le (by k_extra "OM")] at hA
    clear ag N9 F' hA0 hsA
    k_sweep
    (try dsimp only)
    k_extra "STEPS"
    show wpAny _ _ _ _ _ _
    (try dsimp only)
    k_dflt (refine' fixed_functors_spec ?B ?F ?X ?T ?hk ?hd ?hu ?N ?_; k_extra "CTX")
    intro h' tk' b' ws n nt hrow2 hnt F' N'
    k_extra "AFTER"
    have N9 : News g L' h' ((b', { cls := .type "tuple", data := .seq ws.toArray n }) :: (TX, listOf ts.toArray n1) :: (AN, oA') :: (FL, listOf [].toArray 0) :: (FN, oF) :: (bk, instObj 154 dbk) :: (dbk, dictOf (bkE w.params TX AN FL FN kk) 4) :: (nt ++ [])) := News.sub N' (by k_extra "SUBM")
    clear N'
    refine for_tup (L := L') (ol := { cls := .type "tuple", data := .seq ws.toArray n }) (k := n) (vs := ws) (J2I b' bk dbk TX AN FL FN ws n kk (atomRow.foldl putL []) nt prog w) rfl rfl rfl rfl (.inr ?_) (by assumption) N9 ⟨ts, n1, oA', [], 0, oF, [], .cons rfl .nil, rfl, hA, hF0, sep_nil⟩ ?_ ?_
    · intro i m news hR3; obtain ⟨ts, n1, oA', fs, n2, oF', nt2, ag, rfl, hA, hF, ht⟩ := hR3
      exact .head _
    · intro i v m₂ news₂ h₂ tk₂ I oI hi hR9 hne cI F₂ N₂; obtain ⟨ts, n1, oA', fs, n2, oF', nt2, ag, rfl, hA, hF, ht⟩ := hR9
      rw [ag.form] at F₂
      obtain ⟨t, k, t1, t2, a9, e9, rfl, hm9⟩ := hrow2.get hi
      have hp : h₂.get? a9 = some (pairO t k t1 t2) := News.get N₂ (.tail _ (.tail _ (.tail _ (.tail _ (.tail _ (.tail _ (.tail _ (.tail _ (List.mem_append_left _ hm9)))))))))
      clear ag N9
      k_sweep
      (try dsimp only)
      k_extra "STEPS"
      have hl9 := putF_len (funcRow.take i) (atomRow.foldl putL [], [])
      have hl8 : (atomRow.foldl putL []).length ≤ 1000 := Nat.le_trans (putL_len _ _) (by decide)
      have hl7 : (funcRow.take i).length ≤ 100 := by rw [List.length_take]; exact Nat.le_trans (Nat.min_le_right _ _) (by decide)
      have nA1 : ¬ TX = I := hne _ (.tail _ (.head _))
      have nA2 : ¬ AN = I := hne _ (.tail _ (.tail _ (.head _)))
      have nA3 : ¬ b' = I := hne _ (.head _)
      have nA4 : ¬ FL = I := hne _ (.tail _ (.tail _ (.tail _ (.head _))))
      have nA5 : ¬ FN = I := hne _ (.tail _ (.tail _ (.tail _ (.tail _ (.head _)))))
      have nA6 : ¬ bk = I := hne _ (.tail _ (.tail _ (.tail _ (.tail _ (.tail _ (.head _))))))
      have nA7 : ¬ dbk = I := hne _ (.tail _ (.tail _ (.tail _ (.tail _ (.tail _ (.tail _ (.head _)))))))
      have nI9 : ∀ q ∈ nt ++ nt2, ¬ q.1 = I := fun q hq => hne _ (.tail _ (.tail _ (.tail _ (.tail _ (.tail _ (.tail _ (.tail _ hq)))))))
      have mTX := hne
      have ht9 : ∀ q ∈ nt ++ nt2, q.2.cls = .type "tuple" := sep_app hnt ht
      have sub9 : ∀ q ∈ nt ++ nt2, q ∈ ((I, oI) :: (b', { cls := .type "tuple", data := .seq ws.toArray n }) :: (TX, listOf ts.toArray n1) :: (AN, oA') :: (FL, listOf fs.toArray n2) :: (FN, oF') :: (bk, instObj 154 dbk) :: (dbk, dictOf (bkE w.params TX AN FL FN kk) 4) :: (nt ++ nt2)) := fun q hq => (.tail _ (.tail _ (.tail _ (.tail _ (.tail _ (.tail _ (.tail _ (.tail _ hq))))))))
      have t1' := News.neAll N₂ sub9 ht9 (X := TX) (.tail _ (.tail _ (.head _))) (ne_typ rfl)
      have t2' := News.neAll N₂ sub9 ht9 (X := AN) (.tail _ (.tail _ (.tail _ (.head _)))) (by rw [hA.cls]; exact ne_typ rfl)
      have t3' := News.neAll N₂ sub9 ht9 (X := FL) (.tail _ (.tail _ (.tail _ (.tail _ (.head _))))) (ne_typ rfl)
      have t4' := News.neAll N₂ sub9 ht9 (X := FN) (.tail _ (.tail _ (.tail _ (.tail _ (.tail _ (.head _)))))) (by rw [hF.cls]; exact ne_typ rfl)
      have s9 : ∀ q ∈ nt ++ nt2, q.1 ∉ [(TX, listOf ts.toArray n1), (AN, oA'), (FL, listOf fs.toArray n2), (FN, oF')].map (·.1) := fun q hq => by
        exact nmCons (t1' q hq) (nmCons (t2' q hq) (nmCons (t3' q hq) (nmCons (t4' q hq) nmNil)))
      have u2 : ¬ b' = AN := News.ne N₂ (.tail _ (.head _)) (.tail _ (.tail _ (.tail _ (.head _)))) (by rw [hA.cls]; exact ne_typ rfl)
      have u4 : ¬ b' = FN := News.ne N₂ (.tail _ (.head _)) (.tail _ (.tail _ (.tail _ (.tail _ (.tail _ (.head _)))))) (by rw [hF.cls]; exact ne_typ rfl)
      show wpAny _ _ _ _ _ _
      k_dflt (refine' func_spec (pre := [(I, oI), (b', { cls := .type "tuple", data := .seq ws.toArray n })]) (post := (bk, instObj 154 dbk) :: (dbk, dictOf (bkE w.params TX AN FL FN kk) 4) :: (nt ++ nt2)) (kk := kk) (dbk := dbk) ?B ?F ?X ?T ?hk ?hd ?hu ?N ?sep ?q1 ?q2 ?q3 ?q4 ?q5 ?q6 ?hA ?hF ?lo ?lo2 ?hTp ?hbk ?hdbk ?nb1 ?nb2 ?nb3 ?nb4 ?nd1 ?nd2 ?nd3 ?nd4 ?hl ?hl2 ?_; k_extra "CTX2"; (case N => exact N₂); (case sep => k_extra "SEP"); (case q1 => refine neN ?_; omega); (case q2 => refine neN ?_; omega); (case q3 => refine neN ?_; omega); (case q4 => refine neN ?_; omega); (case q5 => refine neN ?_; omega); (case q6 => refine neN ?_; omega); (case hA => exact hA); (case hF => exact hF); (case lo => exact loA); (case lo2 => exact loF); (case hTp => exact fun v c x => TupL.at x (News.sub N₂ fun q hq => sub9 q (List.mem_append_right _ hq))); (case hbk => k_extra "GET"); (case hdbk => k_extra "GET"); (case nb1 => refine neN ?_; omega); (case nb2 => refine neN ?_; omega); (case nb3 => refine neN ?_; omega); (case nb4 => refine neN ?_; omega); (case nd1 => refine neN ?_; omega); (case nd2 => refine neN ?_; omega); (case nd3 => refine neN ?_; omega); (case nd4 => refine neN ?_; omega); (case hl => simp only [List.length_nil] at hl9; omega); (case hl2 => simp only [List.length_nil] at hl9; omega))
      intro h' tk' t1 nt' ts' fs' n1' n2' oA2 oF2 c hc hA2 hF2 hnt' F' N'
      k_extra "AFTER"
      k_extra "STEPS"
      have e8 : (funcRow.take (i + 1)).foldl putF (atomRow.foldl putL [], []) = putF ((funcRow.take i).foldl putF (atomRow.foldl putL [], [])) (t, k) := by
        rw [List.take_add_one, e9, List.foldl_append]
        rfl
      have n9 := News.neAll N' (nt := nt') (X := I) (by k_extra "SUBT2") hnt' (.head _) (by rw [cI]; exact ne_typ rfl)
      have N8 : News g L' h' ([(I, oI)] ++ ((b', { cls := .type "tuple", data := .seq ws.toArray n }) :: (TX, listOf ts'.toArray n1') :: (AN, oA2) :: (FL, listOf fs'.toArray n2') :: (FN, oF2) :: (bk, instObj 154 dbk) :: (dbk, dictOf (bkE w.params TX AN FL FN kk) 4) :: (nt ++ (nt2 ++ nt')))) := News.sub N' (by k_extra "SUBM")
      refine TurnJ.next (by assumption) N8 ?_ ⟨ts', n1', oA2, fs', n2', oF2, nt2 ++ nt', .cons rfl .nil, rfl, ?_, ?_, sep_app ht hnt'⟩
      · exact sep_cons nA3 (sep_cons nA1 (sep_cons nA2 (sep_cons nA4 (sep_cons nA5 (sep_cons nA6 (sep_cons nA7 (sep_app (fun p hp => nI9 _ (List.mem_append_left _ hp)) (sep_app (fun p hp => nI9 _ (List.mem_append_right _ hp)) n9))))))))
      · rw [e8]
        exact hA2
      · rw [e8]
        subst hc
        exact hF2.mono fun v c x => x.elim (fun y => y.mono fun q hq => List.mem_append_left _ hq) (fun y => y.mono fun q hq => List.mem_append_right _ hq)
    · intro m₂ news₂ h₂ tk₂ hR4 F₂ N₂; obtain ⟨ts, n1, oA', fs, n2, oF', nt2, ag, rfl, hA, hF, ht⟩ := hR4
      rw [ag.form] at F₂
      have hlen := hrow2.length
      rw [List.take_of_length_le (by k_extra "OM")] at hA hF
      clear ag N9 F'
      k_sweep
      (try dsimp only)
      k_extra "STEPS"
      have fr9 : ∀ q ∈ pre ++ post, ¬ q.1 = TX ∧ ¬ q.1 = AN ∧ ¬ q.1 = FL ∧ ¬ q.1 = FN := fun q hq => by
        have e9 := hg _ _ (NR q hq).1 (sep q hq)
        refine ⟨?_, ?_, ?_, ?_⟩ <;> intro e
        · exact absurd ((News.fresh N₂ (.tail _ (.head _))).symm.trans (e ▸ e9)) (by simp)
        · exact absurd ((News.fresh N₂ (.tail _ (.tail _ (.head _)))).symm.trans (e ▸ e9)) (by simp)
        · exact absurd ((News.fresh N₂ (.tail _ (.tail _ (.tail _ (.head _))))).symm.trans (e ▸ e9)) (by simp)
        · exact absurd ((News.fresh N₂ (.tail _ (.tail _ (.tail _ (.tail _ (.head _)))))).symm.trans (e ▸ e9)) (by simp)
      have frn : ∀ q ∈ nt2, ∀ p ∈ pre ++ post, q.1 ≠ p.1 := fun q hq p hp e => by
        have e9 := hg _ _ (NR p hp).1 (sep p hp)
        exact absurd ((News.fresh N₂ (.tail _ (.tail _ (.tail _ (.tail _ (.tail _ (.tail _ (.tail _ (List.mem_append_right _ hq))))))))).symm.trans (e ▸ e9)) (by simp)
      k_extra "LV"
      refine ret _ _ TX AN FL FN kk ts n1 oA' fs n2 oF' nt2 hA hF ht loA loF lT.2 lT.1 lA.1 lF.1 lN.1 fr9 frn (by with_reducible assumption) (News.sub (by assumption) ?_)
      k_extra "SUBM"
end
end Part20
section Part21
section
variable {prog : Program} {w : World} {p : Program} {loose : List Str} {mean : ExcName → Option Value} {mg mb : Str → Option Value} {dp un : Nat} {gd : Option (List Code)} {cn : Str} {cs : Scope} {a : Addr} {ccd : Value} {cl : List (Str × Addr)} {outer : List Env} {A₀ : Around} {base h₀ : Heap} {L : Addr} {m : Str → Option Value} {s : Shared} {Q E : Value → Shared → Prop}
  (B : Below A₀ base outer h₀) (F : Fr h₀ L s.heap m) (X : (Mine.hd.heap_1 w.params).In h₀) (T : Top p loose mean mg mb h₀) (hk : cs.kind = .function) (hd : dp + 5 < recursionLimit) (hu : un + 100 < cLine)
include B F X T hk hd hu
theorem ln23 : True := by
  k_with_none
  (k_with "LIT0" => (first | with_reducible assumption | ((first | (with_reducible show @LE.le Nat _ (OfNat.ofNat _) (OfNat.ofNat _)) | (with_reducible show @LT.lt Nat _ (OfNat.ofNat _) (OfNat.ofNat _))); exact Nat.le_of_ble_eq_true rfl)))
  (k_with "LIT1" => (first | with_reducible assumption | (with_reducible refine' Nat.lt_of_lt_of_le ?ha ?hb; (case ha => with_reducible assumption); (case hb => k_extra "LIT0")) | (with_reducible refine' Nat.lt_of_le_of_lt ?ha ?hb; (case ha => with_reducible assumption); (case hb => k_extra "LIT0")) | (with_reducible refine' Nat.le_trans ?ha ?hb; (case ha => with_reducible assumption); (case hb => k_extra "LIT0")) | (with_reducible refine' Nat.le_of_lt (Nat.lt_of_lt_of_le ?ha ?hb); (case ha => with_reducible assumption); (case hb => k_extra "LIT0")) | (with_reducible refine' Nat.lt_of_le_of_lt (Nat.le_of_eq ?ha) ?hb; (case ha => with_reducible assumption); (case hb => k_extra "LIT0")) | (with_reducible refine' Nat.le_trans (Nat.le_of_eq ?ha) ?hb; (case ha => with_reducible assumption); (case hb => k_extra "LIT0"))))
  (k_with "LIT2" => (first | with_reducible assumption | (with_reducible refine' Nat.lt_of_lt_of_le ?ha ?hb; (case ha => with_reducible assumption); (case hb => k_extra "LIT1")) | (with_reducible refine' Nat.lt_of_le_of_lt ?ha ?hb; (case ha => with_reducible assumption); (case hb => k_extra "LIT1")) | (with_reducible refine' Nat.le_trans ?ha ?hb; (case ha => with_reducible assumption); (case hb => k_extra "LIT1")) | (with_reducible refine' Nat.le_of_lt (Nat.lt_of_lt_of_le ?ha ?hb); (case ha => with_reducible assumption); (case hb => k_extra "LIT1")) | (with_reducible refine' Nat.lt_of_le_of_lt (Nat.le_of_eq ?ha) ?hb; (case ha => with_reducible assumption); (case hb => k_extra "LIT1")) | (with_reducible refine' Nat.le_trans (Nat.le_of_eq ?ha) ?hb; (case ha => with_reducible assumption); (case hb => k_extra "LIT1"))))
  (k_with "OM" => (first | with_reducible assumption | with_reducible exact Int.natCast_nonneg _ | with_reducible exact Int.ofNat_lt.mpr (by with_reducible assumption) | with_reducible exact i63 (by k_extra "LIT2") | k_extra "LIT2" | omega))
  (k_with "LTC" => (first | with_reducible assumption | (refine' Nat.lt_trans ?ha ?hb; (case ha => with_reducible assumption); (case hb => k_extra "LTC"))))
  (k_with "NEC" => ((refine neN ?_; (try dsimp only); first | (refine' Nat.ne_of_lt ?hc; (case hc => k_extra "LTC")) | (refine' Nat.ne_of_gt ?hc; (case hc => k_extra "LTC")) | omega)))
  (k_with "ROOMN" => (first | (refine' roomN ?ha (Nat.add_assoc _ _ _) ?hb; (case ha => with_reducible assumption); (case hb => exact rfl)) | (refine' roomN ?ha rfl ?hb; (case ha => with_reducible assumption); (case hb => exact rfl)) | (refine' roomN ?ha ((Nat.add_assoc _ _ _).trans (Nat.add_assoc _ _ _)) ?hb; (case ha => with_reducible assumption); (case hb => exact rfl)) | exact Nat.lt_of_le_of_lt (Nat.le_add_right _ _) (by with_reducible assumption)))
  (k_with "MKUNITS" => (first | k_extra "ROOMN" | ktr_units))
  (k_with "MKNE" => (first | k_extra "NEC" | ((try dsimp only); assumption) | ((try dsimp only); exact Ne.symm (by assumption)) | ((try dsimp only); exact News.ne (by with_reducible assumption) (by k_mem) (by k_mem) (ne_typ rfl))))
  (k_with "MKALL" => (first | assumption | exact List.forall_mem_nil _ | (refine' List.forall_mem_cons.mpr ⟨?a, ?b⟩; (case a => k_ne); (case b => k_all))))
  (k_with "GET" => (first | exact Fr.keep (by with_reducible assumption) _ _ (by with_reducible assumption) | exact News.get (by with_reducible assumption) (by k_mem)))
  (k_with "MKINST" => (exact instG (by k_extra "GET") (by k_extra "GET")))
  (k_with "MISLIST" => (exact isListG (by k_extra "GET")))
  (k_with "ENTER" => (((case ks => assumption); (case k1 => assumption); (case k2 => assumption); (case k3 => assumption); (case k4 => assumption); (case kr => assumption); (case k5 => assumption); (case kK => assumption); (case k8 => first | k_extra "ROOMN" | ktr_room); (case k6 => k_is); (case k7 => k_is); (case k9 => exact BindsTo.of_eq rfl); (case kB => exact locs rfl); (case c2 => exact rfl); (case c3 => exact rfl); (case c4 => exact rfl); (case c5 => decide))))
  (k_with "subscriptTail" => ((k_here; (with_reducible show wpAny _ _ (subscriptTail _ _ (Value.ref _) (Value.int _ _)) _ _ _); k_dflt (refine' item_list ?k1 ?k2 ?k3 ?k4 ?_; (case k1 => is_list); (case k4 => assumption); (case k2 => k_extra "OM"); (case k3 => k_extra "OM")))))
  (k_with "subscriptTail" => ((k_here; (with_reducible show wpAny _ _ (subscriptTail _ _ (Value.ref _) (Value.int 1 _)) _ _ _); k_dflt (refine' item_tup1 ?k1 ?_; (case k1 => k_extra "GET")))))
  (k_with "subscriptTail" => ((k_here; (with_reducible show wpAny _ _ (subscriptTail _ _ (Value.ref _) (Value.int 0 _)) _ _ _); k_dflt (refine' item_tup0 ?k1 ?_; (case k1 => k_extra "GET")))))
  (k_with "compareOp Eq ref ref" => ((k_here; (with_reducible show wpAny _ _ (compareOp CmpOp.Eq (Value.ref _) (Value.ref _)) _ _ _); k_dflt (refine' eq_tup ?k1 ?k2 ?k3 ?_; (case k1 => k_extra "GET"); (case k2 => k_extra "GET"); (case k3 => k_units)))))
  (k_with "ite" => (first | (refine ite_pos ?c ?_; (case c => ((try simp only [decide_eq_true_eq, beq_iff_eq, Bool.not_eq_true', decide_eq_false_iff_not, ne_eq]); first | assumption | omega))) | (refine ite_neg ?c ?_; (case c => ((try simp only [decide_eq_true_eq, beq_iff_eq, Bool.not_eq_true', decide_eq_false_iff_not, ne_eq]); first | assumption | omega)))))
  (k_with "execs cons" => (((with_reducible refine wpAny_execs_cons ?_); (try dsimp only); k_fold)))
  (k_with "STEPS" => (((try k_fold); (repeat' (first | walk1 | (k_unfold; (try dsimp only)) | (dsimp only; walk1))); (all_goals (try dsimp only)))))
  (k_with "LV" => (((try dsimp only [WhileStep2]); refine' LeaveM.mk ?k1 ?k2 ?_; (case k1 => with_reducible assumption); (case k2 => with_reducible assumption); intro _ nK; (try dsimp only [List.nil_append, List.cons_append] at nK); revert nK; intro _; (try dsimp only))))
  (k_with "ROOM" => (first | k_extra "ROOMN" | (simp only [recursionLimit, cLine] at *; omega)))
  (k_with "CTX" => (((case B => with_reducible assumption); (case F => with_reducible assumption); (case X => with_reducible assumption); (case T => with_reducible assumption); (case hk => first | exact rfl | assumption); (case hd => k_extra "ROOM"); (case hu => k_extra "ROOM"); (case N => with_reducible assumption))))
  (k_with "KEEP" => (first | with_reducible assumption | exact DerV.keep (by with_reducible assumption) (Fr.keep (by with_reducible assumption)) | exact Sto.keep (by with_reducible assumption) (Fr.keep (by with_reducible assumption)) | exact Bok.keep (by with_reducible assumption) (Fr.keep (by with_reducible assumption)) | exact TupG.keep (by with_reducible assumption) (Fr.keep (by with_reducible assumption)) | exact ⟨_, by k_extra "GET"⟩ | exact ⟨_, _, _, _, rfl, by k_extra "GET"⟩ | assumption))
  (k_with "AFTER" => (((try dsimp only); (try k_sweep))))
  (k_with "call builtin:len" => ((k_here; (with_reducible show wpAny _ _ (call (Value.builtin "len") [Value.ref _]) _ _ _); k_dflt (refine' len_any ?k1 ?k2 ?_; (case k1 => is_list); (case k2 => first | with_reducible assumption | ((try simp only [List.length_append, List.length_cons, List.length_nil, List.length_set]); omega))))))
  (k_with "call builtin:list.append" => ((k_here; (with_reducible show wpAny _ _ (call (Value.builtin _) [Value.ref _, _]) _ _ _); k_dflt (refine' append_any ?k1 ?k2 ?k3 ?_ ?z; (case k1 => k_asm); (case k2 => k_asm); (case k3 => k_upd); (case z => first | with_reducible assumption | ((try simp only [List.length_append, List.length_cons, List.length_nil, List.length_set]); omega)); k_whole); intro _ _ _; (try k_sweep))))
  (k_with "setItem ref int" => ((k_here; (with_reducible show wpAny _ _ (setItem (Value.ref _) (Value.int _ _) _) _ _ _); k_dflt (refine' set_any ?k1 ?k2 ?k3 ?k4 ?k5 ?k6 ?_; (case k1 => k_asm); (case k2 => k_asm); (case k3 => k_upd); (case k4 => k_extra "OM"); (case k5 => first | with_reducible assumption | ((try simp only [List.length_append, List.length_cons, List.length_nil, List.length_set]); omega)); (case k6 => k_extra "OM"); k_whole); intro _ _ _; (try k_sweep))))
  (k_with "CTX2" => (((case B => with_reducible assumption); (case F => with_reducible assumption); (case X => with_reducible assumption); (case T => with_reducible assumption); (case hk => first | exact rfl | assumption); (case hd => k_extra "ROOM"); (case hu => k_extra "ROOM"))))
  (k_with "SEP" => (((repeat' (first | assumption | exact sep_nil | refine sep_app ?_ ?_ | refine sep_cons ?_ ?_)); (all_goals ((repeat' (first | exact nmNil | refine nmCons ?_ ?_)); all_goals first | assumption | k_extra "NEC" | exact Ne.symm (by assumption) | exact News.ne (by with_reducible assumption) (by k_mem) (by k_mem) (ne_typ rfl))))))
  (k_with "SPLIT1" => (first | (refine' News.at0 ?n; (case n => with_reducible assumption)) | (refine' News.at1 ?n; (case n => with_reducible assumption)) | (refine' News.at2 ?n; (case n => with_reducible assumption)) | (refine' News.at3 ?n; (case n => with_reducible assumption)) | (refine' News.at4 ?n; (case n => with_reducible assumption)) | (refine' News.at5 ?n; (case n => with_reducible assumption)) | (refine' News.at6 ?n; (case n => with_reducible assumption))))
  (k_with "pyIter ref" => (refine stopHere ?_))
  (k_with "SEPI" => (((repeat' (first | assumption | exact sep_nil | refine sep_app ?_ ?_ | refine sep_cons ?_ ?_)); (all_goals ((try dsimp only); first | assumption | k_extra "NEC" | exact Ne.symm (by assumption))))))
  (k_with "SUBT" => (first | exact sub_refl | (refine sub_cons ?_; k_extra "SUBT") | (refine sub_right ?_; k_extra "SUBT") | (refine sub_left ?_; k_extra "SUBT")))
  (k_with "MEM" => (first | exact memH | (with_reducible refine List.mem_append_right _ ?_; k_extra "MEM") | (with_reducible refine List.mem_append_left _ ?_; k_extra "MEM") | (with_reducible refine memT ?_; k_extra "MEM")))
  (k_with "SUBT2" => (first | exact sub_refl | (with_reducible refine sub_right ?_; k_extra "SUBT2") | (with_reducible refine sub_left ?_; k_extra "SUBT2") | (with_reducible refine sub_cons ?_; k_extra "SUBT2")))
  (k_with "SUBM" => (((repeat' (first | exact sep_nil | refine sep_app ?_ ?_ | refine sep_cons ?_ ?_)); (all_goals first | k_extra "MEM" | k_extra "SUBT2"))))
  (k_with "SUB" => (((repeat' (first | exact sep_nil | refine sep_app ?_ ?_ | refine sep_cons ?_ ?_)); (all_goals first | k_mem | k_extra "MEM" | k_extra "SUBT2" | (simp only [List.mem_append, List.mem_cons, List.not_mem_nil, true_or, or_true, or_false, false_or]; done) | (intro _ hx9; simp only [hx9, List.mem_append, List.mem_cons, List.not_mem_nil, true_or, or_true, or_false, false_or]; done) | k_extra "SUBT"))))
  (k_with "exec For Name Name cons nil" => ((k_here; (with_unfolding_all refine' For_invVF ?kF ?k1 ?k2 ?_; (case kF => assumption); (case k1 => exact rfl); (case k2 => exact rfl); k_whole))))
  (k_with "exec For Name Call cons nil" => ((k_here; (with_unfolding_all refine' For_invVF ?kF ?k1 ?k2 ?_; (case kF => assumption); (case k1 => exact rfl); (case k2 => exact rfl); k_whole))))
  (k_with "exec For Name Subscript cons nil" => ((k_here; (with_unfolding_all refine' For_invVF ?kF ?k1 ?k2 ?_; (case kF => assumption); (case k1 => exact rfl); (case k2 => exact rfl); k_whole))))
  (k_with "exec For Name Attribute cons nil" => ((k_here; (with_unfolding_all refine' For_invVF ?kF ?k1 ?k2 ?_; (case kF => assumption); (case k1 => exact rfl); (case k2 => exact rfl); k_whole))))
  (k_with "KEEP" => (first | with_reducible assumption | exact DerV.keep (by with_reducible assumption) (Fr.keep (by with_reducible assumption)) | exact Sto.keep (by with_reducible assumption) (Fr.keep (by with_reducible assumption)) | exact Bok.keep (by with_reducible assumption) (Fr.keep (by with_reducible assumption)) | exact TupG.keep (by with_reducible assumption) (Fr.keep (by with_reducible assumption)) | exact ⟨_, by k_extra "GET"⟩ | exact ⟨_, _, _, _, rfl, by k_extra "GET"⟩ | assumption))
  trivial
theorem cinit_walk {pre post : List (Addr × Obj)} {st dst bk : Addr}
    (N : News h₀ L s.heap (pre ++ ([(st, instObj 381 dst), (dst, dictOf [] 0)] ++ post))) (sep : ∀ q ∈ pre ++ post, q.1 ∉ [(st, instObj 381 dst), (dst, dictOf [] 0)].map (·.1)) (hne : ¬ st = dst) (lo : (dst == sysModules) = false)
    (ret : ∀ h' tk' H S Tr kk u, st < H → dst < H → H < S → (∀ q ∈ pre ++ post, ¬ q.1 = H ∧ ¬ q.1 = S) → Fr h₀ L h' m → News h₀ L h' (pre ++ ([(H, listOf [].toArray 0), (S, listOf [].toArray 0), (st, instObj 381 dst), (dst, dictOf (stE w.params bk H S Tr kk u) 7)] ++ post)) → Q .none { s with heap := h', toks := tk' }) :
    codeAny (model prog w) (ktrTop dp un gd cn cs L a ccd cl outer) (.call (.ref 195) ⟨[.ref st, .ref bk], []⟩) (fun r s' => match r with | .ok (.ret v) => Q v s' | .ok _ => False | .error e => E e s') s := by
  have N0 := News.loc N
  have NR := News.others N
  have Xs := X.keeps F.keep
  k_dflt (refine' enterC (binds := [(Str.ofString "self", .ref st), (Str.ofString "symbols", .ref bk), (Str.ofString "max_heap", .int 100000 _)]) ?k1 ?k2 ?k3 ?k4 ?kr ?ks ?k5 ?kK ?k8 ?k6 ?k7 ?k9 ?kB ?_ ?c2 ?c3 ?c4 ?c5; (case ks => assumption); (case k1 => assumption); (case k2 => assumption); (case k3 => assumption); (case k4 => assumption); (case kr => assumption); (case k5 => assumption); (case kK => assumption); (case k8 => first | k_extra "ROOMN" | ktr_room); (case k6 => k_is); (case k7 => k_is); (case k9 => exact binds_K (K := Mine.hd.heap_1 w.params) (T := 188) Xs (by rfl) (by k_is) (by rfl) (by with_unfolding_all exact rfl) (by with_unfolding_all exact rfl)); (case kB => exact locs rfl); (case c2 => exact rfl); (case c3 => exact rfl); (case c4 => exact rfl); (case c5 => decide))
  intro g L' h' tk F' N' B' X' T' hg
  (try dsimp only)
  k_extra "STEPS"
  rename_i H _ lH _ _ _ S _ lS _ _ _ Tr _ lTr _ _ _ _ _ F' N'
  obtain ⟨kk, u, N9⟩ : ∃ kk u : Nat → Tok, News g L' _ [(H, listOf [].toArray 0), (S, listOf [].toArray 0), (st, instObj 381 dst), (dst, dictOf (stE w.params bk H S Tr kk u) 7)] :=
    ⟨fun i => match i with | 0 => _ | 1 => _ | 2 => _ | 3 => _ | 4 => _ | 5 => _ | _ => _, fun i => match i with | 0 => _ | 1 => _ | _ => _, News.sub (b := [_, _, _, _]) N' (by k_extra "SUB")⟩
  clear N'
  have fr9 : ∀ q ∈ pre ++ post, ¬ q.1 = H ∧ ¬ q.1 = S := fun q hq => by
    have e9 := hg _ _ (NR q hq).1 (sep q hq)
    refine ⟨?_, ?_⟩ <;> intro e
    · exact absurd ((News.fresh N9 (.head _)).symm.trans (e ▸ e9)) (by simp)
    · exact absurd ((News.fresh N9 (.tail _ (.head _))).symm.trans (e ▸ e9)) (by simp)
  k_extra "LV"
  refine ret _ _ H S Tr kk u lH.1 lH.2 lS.1 fr9 (by with_reducible assumption) (News.sub (by assumption) ?_)
  intro x hx
  simp only [List.mem_append, List.mem_cons, List.not_mem_nil, or_false, or_assoc] at hx ⊢
  rcases hx with hx | hx | hx | hx | hx | hx <;> simp [hx]
end
end Part21
section Part22
noncomputable def ForHeap (H S : List (Int × Int)) (c : Int × Int) (H' S' : List (Int × Int)) (d : Int × Int) : Prop := (c.1 ≠ 1 ∧ H' = H ∧ S' = S ∧ d = c) ∨ (c.1 = 1 ∧ Globs H S [c] H' S' [d])
section
variable {prog : Program} {w : World} {p : Program} {loose : List Str} {mean : ExcName → Option Value} {mg mb : Str → Option Value} {dp un : Nat} {gd : Option (List Code)} {cn : Str} {cs : Scope} {a : Addr} {ccd : Value} {cl : List (Str × Addr)} {outer : List Env} {A₀ : Around} {base h₀ : Heap} {L : Addr} {m : Str → Option Value} {s : Shared} {Q E : Value → Shared → Prop}
  (B : Below A₀ base outer h₀) (F : Fr h₀ L s.heap m) (X : (Mine.hd.heap_1 w.params).In h₀) (T : Top p loose mean mg mb h₀) (hk : cs.kind = .function) (hd : dp + 25 < recursionLimit) (hu : un + 500 < cLine)
include B F X T hk hd hu
theorem ln24 : True := by
  (k_with "call ref" => ((k_here; (with_reducible show wpAny _ _ (call (Value.ref 258) _) _ _ _); refine stopHere ?_)))
  trivial
theorem lfh_spec {pre post : List (Addr × Obj)} {st bk H S : Addr} {hs ss : List Value} {n1 n2 : Nat} {v : Value} {Tp : Value → Int × Int → Prop} {Ha Sa H' S' : List (Int × Int)} {c d : Int × Int}
    (N : News h₀ L s.heap (pre ++ ([(H, listOf hs.toArray n1), (S, listOf ss.toArray n2)] ++ post))) (sep : ∀ q ∈ pre ++ post, q.1 ∉ [(H, listOf hs.toArray n1), (S, listOf ss.toArray n2)].map (·.1)) (hHS : ¬ H = S)
    (hS : Sto w.params s.heap st bk H S) (hTp : ∀ v c, Tp v c → TupG s.heap v c) (cH : CellsP Tp hs Ha) (cS : CellsP Tp ss Sa) (tc : Tp v c) (hG : ForHeap Ha Sa c H' S' d) (bH : Ha.length < 80000) (bS : Sa.length < 80000)
    (ret : ∀ h' tk' r nt hs' ss' n1' n2', CellsP (Tq Tp nt) hs' H' → CellsP (Tq Tp nt) ss' S' → Tq Tp nt r d → (∀ q ∈ nt, q.2.cls = .type "tuple") → Fr h₀ L h' m →
      News h₀ L h' (pre ++ ([(H, listOf hs'.toArray n1'), (S, listOf ss'.toArray n2')] ++ (nt ++ post))) → Q r { s with heap := h', toks := tk' }) :
    wpAny (model prog w) (ktrTop dp un gd cn cs L a ccd cl outer) (call (.ref 418) [.ref st, v]) Q E s := by
  have N0 := News.loc N
  have NR := News.others N
  have lH := cH.length
  have lS := cS.length
  k_dflt (refine' enterM (binds := [(Str.ofString "store", .ref st), (Str.ofString "cell", v)]) ?k1 ?k2 ?k3 ?k4 ?kr ?ks ?k5 ?kK ?k8 ?k6 ?k7 ?k9 ?kB ?_ ?c2 ?c3 ?c4 ?c5; k_extra "ENTER")
  intro g L' h' tk F' N' B' X' T' hg
  have hb : ButLists s.heap g := ButLists.of N0 (by simp) hg
  have hSg := hS.but hb
  have hTg : ∀ v c, Tp v c → TupG g v c := fun v c t => (hTp v c t).but hb
  refine Classical.byContradiction fun nGo => ?_
  obtain ⟨ar0, t1, t2, nc, rfl, ht⟩ := id (hTg _ _ tc)
  obtain ⟨dst, Tr, kk, u, hst, hdst⟩ := id hSg
  refine nGo ?_; clear nGo
  have hm0 : ∀ v c, Tp v c → Tq Tp [] v c := fun v c t => .inl t
  (try dsimp only)
  obtain ⟨hc, rfl, rfl, rfl⟩ | ⟨hc, hG⟩ := hG
  · k_extra "STEPS"
    k_extra "LV"
    exact ret _ _ _ [] _ _ _ _ (cH.mono hm0) (cS.mono hm0) (.inl tc) sep_nil (by with_reducible assumption) (News.join (by assumption))
  · cases hG with
    | keep hde hn hG' =>
      cases hG'
      obtain ⟨r, tr, dv⟩ := derV_of hTg cH cS (by k_extra "OM") (by k_extra "OM") hde tc
      have hr := hTg _ _ tr
      k_extra "STEPS"
      show wpAny _ _ _ _ _ _
      k_dflt (refine' glob0_spec ?B ?F ?X ?T ?hk ?hd ?hu ?N ?hS ?hH ?hT ?hv ?hr ?e1 ?_; k_extra "CTX"; (case hv => exact DerV.keep dv (Fr.keep (by with_reducible assumption))); (case hr => exact TupG.keep hr (Fr.keep (by with_reducible assumption))); (case e1 => exact hn); (case hS => k_extra "KEEP"); (case hH => k_extra "KEEP"); (case hT => k_extra "KEEP"))
      intro h' tk' F' N'
      k_extra "AFTER"
      k_extra "STEPS"
      k_extra "LV"
      exact ret _ _ _ [] _ _ _ _ (cH.mono hm0) (cS.mono hm0) (.inl tr) sep_nil (by with_reducible assumption) (News.join (by assumption))
    | @move _ _ n9 _ d9 _ _ _ _ hde hn h0 h1 hG' =>
      cases hG'
      obtain ⟨r, tr, dv⟩ := derV_of hTg cH cS (by k_extra "OM") (by k_extra "OM") hde tc
      have hr := hTg _ _ tr
      k_extra "STEPS"
      show wpAny _ _ _ _ _ _
      k_dflt (refine' glob1_spec ?B ?F ?X ?T ?hk ?hd ?hu ?N ?sep ?hne ?hS ?hv ?hr ?e1 ?e2 ?e3 ?hl ?hl2 ?_; k_extra "CTX2"; (case hv => exact DerV.keep dv (Fr.keep (by with_reducible assumption))); (case hr => exact TupG.keep hr (Fr.keep (by with_reducible assumption))); (case e1 => exact hn); (case hS => k_extra "KEEP"); (case N => exact News.two0 (by with_reducible assumption)); (case hne => assumption); (case e2 => assumption); (case e3 => k_extra "OM"); (case hl => k_extra "OM"); (case hl2 => k_extra "OM"); (case sep => k_extra "SEP"))
      intro h' tk' a' t1' t2' F' N'
      (try dsimp only [List.nil_append, List.cons_append, List.append_nil] at N')
      k_extra "AFTER"
      k_extra "STEPS"
      have hq : Tq Tp [(a', tupO (0, (hs.length : Int)) t1' t2' 0)] (.ref a') (0, (Ha.length : Int)) := .inr ⟨a', t1', t2', rfl, by rw [← lH]; exact .head _⟩
      have hm1 : ∀ v c, Tp v c → Tq Tp [(a', tupO (0, (hs.length : Int)) t1' t2' 0)] v c := fun v c t => .inl t
      k_extra "LV"
      rename News _ _ _ _ => N8
      refine ret _ _ _ [(a', tupO (0, (hs.length : Int)) t1' t2' 0)] (hs ++ [.ref a']) (ss.set d9.2.toNat (.ref a')) (n1 + 1) n2 ((cH.mono hm1).app (.cons hq .nil)) (CellsP.set hq (cS.mono hm1) _) hq (sep_cons rfl sep_nil) (by with_reducible assumption) (News.sub N8 ?_)
      intro x hx
      simp only [List.mem_append, List.mem_cons, List.not_mem_nil, or_false, or_assoc] at hx ⊢
      rcases hx with hx | hx | hx | hx | hx <;> simp [hx]
end
end Part22
section Part23
section
variable {prog : Program} {w : World} {p : Program} {loose : List Str} {mean : ExcName → Option Value} {mg mb : Str → Option Value} {dp un : Nat} {gd : Option (List Code)} {cn : Str} {cs : Scope} {a : Addr} {ccd : Value} {cl : List (Str × Addr)} {outer : List Env} {A₀ : Around} {base h₀ : Heap} {L : Addr} {m : Str → Option Value} {s : Shared} {Q E : Value → Shared → Prop}
  (B : Below A₀ base outer h₀) (F : Fr h₀ L s.heap m) (X : (Mine.hd.heap_1 w.params).In h₀) (T : Top p loose mean mg mb h₀) (hk : cs.kind = .function) (hd : dp + 15 < recursionLimit) (hu : un + 300 < cLine)
include B F X T hk hd hu
theorem ln25 : True := by
  k_with_none
  (k_with "LIT0" => (first | with_reducible assumption | ((first | (with_reducible show @LE.le Nat _ (OfNat.ofNat _) (OfNat.ofNat _)) | (with_reducible show @LT.lt Nat _ (OfNat.ofNat _) (OfNat.ofNat _))); exact Nat.le_of_ble_eq_true rfl)))
  (k_with "LIT1" => (first | with_reducible assumption | (with_reducible refine' Nat.lt_of_lt_of_le ?ha ?hb; (case ha => with_reducible assumption); (case hb => k_extra "LIT0")) | (with_reducible refine' Nat.lt_of_le_of_lt ?ha ?hb; (case ha => with_reducible assumption); (case hb => k_extra "LIT0")) | (with_reducible refine' Nat.le_trans ?ha ?hb; (case ha => with_reducible assumption); (case hb => k_extra "LIT0")) | (with_reducible refine' Nat.le_of_lt (Nat.lt_of_lt_of_le ?ha ?hb); (case ha => with_reducible assumption); (case hb => k_extra "LIT0")) | (with_reducible refine' Nat.lt_of_le_of_lt (Nat.le_of_eq ?ha) ?hb; (case ha => with_reducible assumption); (case hb => k_extra "LIT0")) | (with_reducible refine' Nat.le_trans (Nat.le_of_eq ?ha) ?hb; (case ha => with_reducible assumption); (case hb => k_extra "LIT0"))))
  (k_with "LIT2" => (first | with_reducible assumption | (with_reducible refine' Nat.lt_of_lt_of_le ?ha ?hb; (case ha => with_reducible assumption); (case hb => k_extra "LIT1")) | (with_reducible refine' Nat.lt_of_le_of_lt ?ha ?hb; (case ha => with_reducible assumption); (case hb => k_extra "LIT1")) | (with_reducible refine' Nat.le_trans ?ha ?hb; (case ha => with_reducible assumption); (case hb => k_extra "LIT1")) | (with_reducible refine' Nat.le_of_lt (Nat.lt_of_lt_of_le ?ha ?hb); (case ha => with_reducible assumption); (case hb => k_extra "LIT1")) | (with_reducible refine' Nat.lt_of_le_of_lt (Nat.le_of_eq ?ha) ?hb; (case ha => with_reducible assumption); (case hb => k_extra "LIT1")) | (with_reducible refine' Nat.le_trans (Nat.le_of_eq ?ha) ?hb; (case ha => with_reducible assumption); (case hb => k_extra "LIT1"))))
  (k_with "OM" => (first | with_reducible assumption | with_reducible exact Int.natCast_nonneg _ | with_reducible exact Int.ofNat_lt.mpr (by with_reducible assumption) | with_reducible exact i63 (by k_extra "LIT2") | k_extra "LIT2" | omega))
  (k_with "LTC" => (first | with_reducible assumption | (refine' Nat.lt_trans ?ha ?hb; (case ha => with_reducible assumption); (case hb => k_extra "LTC"))))
  (k_with "NEC" => ((refine neN ?_; (try dsimp only); first | (refine' Nat.ne_of_lt ?hc; (case hc => k_extra "LTC")) | (refine' Nat.ne_of_gt ?hc; (case hc => k_extra "LTC")) | omega)))
  (k_with "ROOMN" => (first | (refine' roomN ?ha (Nat.add_assoc _ _ _) ?hb; (case ha => with_reducible assumption); (case hb => exact rfl)) | (refine' roomN ?ha rfl ?hb; (case ha => with_reducible assumption); (case hb => exact rfl)) | (refine' roomN ?ha ((Nat.add_assoc _ _ _).trans (Nat.add_assoc _ _ _)) ?hb; (case ha => with_reducible assumption); (case hb => exact rfl)) | exact Nat.lt_of_le_of_lt (Nat.le_add_right _ _) (by with_reducible assumption)))
  (k_with "MKUNITS" => (first | k_extra "ROOMN" | ktr_units))
  (k_with "MKNE" => (first | k_extra "NEC" | ((try dsimp only); assumption) | ((try dsimp only); exact Ne.symm (by assumption)) | ((try dsimp only); exact News.ne (by with_reducible assumption) (by k_mem) (by k_mem) (ne_typ rfl))))
  (k_with "MKALL" => (first | assumption | exact List.forall_mem_nil _ | (refine' List.forall_mem_cons.mpr ⟨?a, ?b⟩; (case a => k_ne); (case b => k_all))))
  (k_with "GET" => (first | exact Fr.keep (by with_reducible assumption) _ _ (by with_reducible assumption) | exact News.get (by with_reducible assumption) (by k_mem)))
  (k_with "MKINST" => (exact instG (by k_extra "GET") (by k_extra "GET")))
  (k_with "MISLIST" => (exact isListG (by k_extra "GET")))
  (k_with "ENTER" => (((case ks => assumption); (case k1 => assumption); (case k2 => assumption); (case k3 => assumption); (case k4 => assumption); (case kr => assumption); (case k5 => assumption); (case kK => assumption); (case k8 => first | k_extra "ROOMN" | ktr_room); (case k6 => k_is); (case k7 => k_is); (case k9 => exact BindsTo.of_eq rfl); (case kB => exact locs rfl); (case c2 => exact rfl); (case c3 => exact rfl); (case c4 => exact rfl); (case c5 => decide))))
  (k_with "subscriptTail" => ((k_here; (with_reducible show wpAny _ _ (subscriptTail _ _ (Value.ref _) (Value.int _ _)) _ _ _); k_dflt (refine' item_list ?k1 ?k2 ?k3 ?k4 ?_; (case k1 => is_list); (case k4 => assumption); (case k2 => k_extra "OM"); (case k3 => k_extra "OM")))))
  (k_with "subscriptTail" => ((k_here; (with_reducible show wpAny _ _ (subscriptTail _ _ (Value.ref _) (Value.int 1 _)) _ _ _); k_dflt (refine' item_tup1 ?k1 ?_; (case k1 => k_extra "GET")))))
  (k_with "subscriptTail" => ((k_here; (with_reducible show wpAny _ _ (subscriptTail _ _ (Value.ref _) (Value.int 0 _)) _ _ _); k_dflt (refine' item_tup0 ?k1 ?_; (case k1 => k_extra "GET")))))
  (k_with "compareOp Eq ref ref" => ((k_here; (with_reducible show wpAny _ _ (compareOp CmpOp.Eq (Value.ref _) (Value.ref _)) _ _ _); k_dflt (refine' eq_tup ?k1 ?k2 ?k3 ?_; (case k1 => k_extra "GET"); (case k2 => k_extra "GET"); (case k3 => k_units)))))
  (k_with "ite" => (first | (refine ite_pos ?c ?_; (case c => ((try simp only [decide_eq_true_eq, beq_iff_eq, Bool.not_eq_true', decide_eq_false_iff_not, ne_eq]); first | assumption | omega))) | (refine ite_neg ?c ?_; (case c => ((try simp only [decide_eq_true_eq, beq_iff_eq, Bool.not_eq_true', decide_eq_false_iff_not, ne_eq]); first | assumption | omega)))))
  (k_with "execs cons" => (((with_reducible refine wpAny_execs_cons ?_); (try dsimp only); k_fold)))
  (k_with "STEPS" => (((try k_fold); (repeat' (first | walk1 | (k_unfold; (try dsimp only)) | (dsimp only; walk1))); (all_goals (try dsimp only)))))
  (k_with "LV" => (((try dsimp only [WhileStep2]); refine' LeaveM.mk ?k1 ?k2 ?_; (case k1 => with_reducible assumption); (case k2 => with_reducible assumption); intro _ nK; (try dsimp only [List.nil_append, List.cons_append] at nK); revert nK; intro _; (try dsimp only))))
  (k_with "ROOM" => (first | k_extra "ROOMN" | (simp only [recursionLimit, cLine] at *; omega)))
  (k_with "CTX" => (((case B => with_reducible assumption); (case F => with_reducible assumption); (case X => with_reducible assumption); (case T => with_reducible assumption); (case hk => first | exact rfl | assumption); (case hd => k_extra "ROOM"); (case hu => k_extra "ROOM"); (case N => with_reducible assumption))))
  (k_with "KEEP" => (first | with_reducible assumption | exact DerV.keep (by with_reducible assumption) (Fr.keep (by with_reducible assumption)) | exact Sto.keep (by with_reducible assumption) (Fr.keep (by with_reducible assumption)) | exact Bok.keep (by with_reducible assumption) (Fr.keep (by with_reducible assumption)) | exact TupG.keep (by with_reducible assumption) (Fr.keep (by with_reducible assumption)) | exact ⟨_, by k_extra "GET"⟩ | exact ⟨_, _, _, _, rfl, by k_extra "GET"⟩ | assumption))
  (k_with "AFTER" => (((try dsimp only); (try k_sweep))))
  (k_with "call builtin:len" => ((k_here; (with_reducible show wpAny _ _ (call (Value.builtin "len") [Value.ref _]) _ _ _); k_dflt (refine' len_any ?k1 ?k2 ?_; (case k1 => is_list); (case k2 => first | with_reducible assumption | ((try simp only [List.length_append, List.length_cons, List.length_nil, List.length_set]); omega))))))
  (k_with "call builtin:list.append" => ((k_here; (with_reducible show wpAny _ _ (call (Value.builtin _) [Value.ref _, _]) _ _ _); k_dflt (refine' append_any ?k1 ?k2 ?k3 ?_ ?z; (case k1 => k_asm); (case k2 => k_asm); (case k3 => k_upd); (case z => first | with_reducible assumption | ((try simp only [List.length_append, List.length_cons, List.length_nil, List.length_set]); omega)); k_whole); intro _ _ _; (try k_sweep))))
  (k_with "setItem ref int" => ((k_here; (with_reducible show wpAny _ _ (setItem (Value.ref _) (Value.int _ _) _) _ _ _); k_dflt (refine' set_any ?k1 ?k2 ?k3 ?k4 ?k5 ?k6 ?_; (case k1 => k_asm); (case k2 => k_asm); (case k3 => k_upd); (case k4 => k_extra "OM"); (case k5 => first | with_reducible assumption | ((try simp only [List.length_append, List.length_cons, List.length_nil, List.length_set]); omega)); (case k6 => k_extra "OM"); k_whole); intro _ _ _; (try k_sweep))))
  (k_with "CTX2" => (((case B => with_reducible assumption); (case F => with_reducible assumption); (case X => with_reducible assumption); (case T => with_reducible assumption); (case hk => first | exact rfl | assumption); (case hd => k_extra "ROOM"); (case hu => k_extra "ROOM"))))
  (k_with "SEP" => (((repeat' (first | assumption | exact sep_nil | refine sep_app ?_ ?_ | refine sep_cons ?_ ?_)); (all_goals ((repeat' (first | exact nmNil | refine nmCons ?_ ?_)); all_goals first | assumption | k_extra "NEC" | exact Ne.symm (by assumption) | exact News.ne (by with_reducible assumption) (by k_mem) (by k_mem) (ne_typ rfl))))))
  (k_with "SPLIT1" => (first | (refine' News.at0 ?n; (case n => with_reducible assumption)) | (refine' News.at1 ?n; (case n => with_reducible assumption)) | (refine' News.at2 ?n; (case n => with_reducible assumption)) | (refine' News.at3 ?n; (case n => with_reducible assumption)) | (refine' News.at4 ?n; (case n => with_reducible assumption)) | (refine' News.at5 ?n; (case n => with_reducible assumption)) | (refine' News.at6 ?n; (case n => with_reducible assumption))))
  (k_with "pyIter ref" => (refine stopHere ?_))
  (k_with "SEPI" => (((repeat' (first | assumption | exact sep_nil | refine sep_app ?_ ?_ | refine sep_cons ?_ ?_)); (all_goals ((try dsimp only); first | assumption | k_extra "NEC" | exact Ne.symm (by assumption))))))
  (k_with "SUBT" => (first | exact sub_refl | (refine sub_cons ?_; k_extra "SUBT") | (refine sub_right ?_; k_extra "SUBT") | (refine sub_left ?_; k_extra "SUBT")))
  (k_with "MEM" => (first | exact memH | (with_reducible refine List.mem_append_right _ ?_; k_extra "MEM") | (with_reducible refine List.mem_append_left _ ?_; k_extra "MEM") | (with_reducible refine memT ?_; k_extra "MEM")))
  (k_with "SUBT2" => (first | exact sub_refl | (with_reducible refine sub_right ?_; k_extra "SUBT2") | (with_reducible refine sub_left ?_; k_extra "SUBT2") | (with_reducible refine sub_cons ?_; k_extra "SUBT2")))
  (k_with "SUBM" => (((repeat' (first | exact sep_nil | refine sep_app ?_ ?_ | refine sep_cons ?_ ?_)); (all_goals first | k_extra "MEM" | k_extra "SUBT2"))))
  (k_with "SUB" => (((repeat' (first | exact sep_nil | refine sep_app ?_ ?_ | refine sep_cons ?_ ?_)); (all_goals first | k_mem | k_extra "MEM" | k_extra "SUBT2" | (simp only [List.mem_append, List.mem_cons, List.not_mem_nil, true_or, or_true, or_false, false_or]; done) | (intro _ hx9; simp only [hx9, List.mem_append, List.mem_cons, List.not_mem_nil, true_or, or_true, or_false, false_or]; done) | k_extra "SUBT"))))
  (k_with "exec For Name Name cons nil" => ((k_here; (with_unfolding_all refine' For_invVF ?kF ?k1 ?k2 ?_; (case kF => assumption); (case k1 => exact rfl); (case k2 => exact rfl); k_whole))))
  (k_with "exec For Name Call cons nil" => ((k_here; (with_unfolding_all refine' For_invVF ?kF ?k1 ?k2 ?_; (case kF => assumption); (case k1 => exact rfl); (case k2 => exact rfl); k_whole))))
  (k_with "exec For Name Subscript cons nil" => ((k_here; (with_unfolding_all refine' For_invVF ?kF ?k1 ?k2 ?_; (case kF => assumption); (case k1 => exact rfl); (case k2 => exact rfl); k_whole))))
  (k_with "exec For Name Attribute cons nil" => ((k_here; (with_unfolding_all refine' For_invVF ?kF ?k1 ?k2 ?_; (case kF => assumption); (case k1 => exact rfl); (case k2 => exact rfl); k_whole))))
  (k_with "KEEP" => (first | with_reducible assumption | exact DerV.keep (by with_reducible assumption) (Fr.keep (by with_reducible assumption)) | exact Sto.keep (by with_reducible assumption) (Fr.keep (by with_reducible assumption)) | exact Bok.keep (by with_reducible assumption) (Fr.keep (by with_reducible assumption)) | exact TupG.keep (by with_reducible assumption) (Fr.keep (by with_reducible assumption)) | exact ⟨_, by k_extra "GET"⟩ | exact ⟨_, _, _, _, rfl, by k_extra "GET"⟩ | assumption))
  (k_with "inplaceOp FloorDiv int int" => ((k_here; with_reducible refine ifloordiv_int ?kbe ?_ (Or.inl (PyProof.noPylong_small ?kbp)); (case kbe => k_extra "OM"); (case kbp => k_extra "OM"))))
  (k_with "subscriptTail" => ((k_here; (with_reducible show wpAny _ _ (subscriptTail _ _ (Value.ref _) (Value.int _ _)) _ _ _); k_dflt (refine' item_list ?k1 ?k2 ?k3 ?k4 ?_; (case k1 => is_list); (case k4 => exact rfl); (case k2 => k_extra "OM"); (case k3 => k_extra "OM")))))
  trivial
theorem pick_spec {pre post : List (Addr × Obj)} {U D : Addr} {ws : List Value} {xs : List Int} {x i k : Int} {t0 t1 tk0 : Tok} {n1 : Nat}
    (N : News h₀ L s.heap (pre ++ ([(U, listOf [.int x t0, .ref D, .int i t1].toArray n1)] ++ post))) (sep : ∀ q ∈ pre ++ post, q.1 ∉ [(U, listOf [.int x t0, .ref D, .int i t1].toArray n1)].map (·.1))
    (hD : LstG s.heap D ws) (hDU : ¬ D = U) (hI : IntsAre ws xs) (hl : ws.length ≤ 63) (x0 : 0 ≤ x) (i0 : 0 ≤ i) (i1 : i ≤ ws.length) (k0 : 0 < k) (k1 : k < 100)
    (ret : ∀ h' tk' v tv x' i' t0' t1' n', 0 ≤ v → v < k → 0 ≤ x' → 0 ≤ i' → i' ≤ (ws.length : Int) → Fr h₀ L h' m →
      News h₀ L h' (pre ++ ([(U, listOf [.int x' t0', .ref D, .int i' t1'].toArray n')] ++ post)) → Q (.int v tv) { s with heap := h', toks := tk' }) :
    wpAny (model prog w) (ktrTop dp un gd cn cs L a ccd cl outer) (call (.ref 411) [.ref U, .int k tk0]) Q E s := by
  have N0 := News.loc N
  have NR := News.others N
  k_dflt (refine' enterM (binds := [(Str.ofString "urn", .ref U), (Str.ofString "faces", .int k tk0)]) ?k1 ?k2 ?k3 ?k4 ?kr ?ks ?k5 ?kK ?k8 ?k6 ?k7 ?k9 ?kB ?_ ?c2 ?c3 ?c4 ?c5; k_extra "ENTER")
  intro g L' h' tk F' N' B' X' T' hg
  obtain ⟨n2, hD⟩ := hD
  replace hD := hg _ _ hD (by simpa using hDU)
  (try dsimp only)
  by_cases c1 : x = 0
  · by_cases c2 : i < ws.length
    · k_extra "STEPS"
      have y0 : 0 ≤ (if xs.getD i.toNat 0 < 0 then -xs.getD i.toNat 0 else xs.getD i.toNat 0) := by split <;> omega
      k_extra "LV"
      exact ret _ _ _ _ ((if xs.getD i.toNat 0 < 0 then -xs.getD i.toNat 0 else xs.getD i.toNat 0).fdiv k) (i + 1) _ _ _ (Int.fmod_nonneg_of_pos _ k0) (Int.fmod_lt_of_pos _ k0) (Int.fdiv_nonneg y0 (Int.le_of_lt k0)) (by k_extra "OM") (by k_extra "OM") (by with_reducible assumption) (News.join (by assumption))
    · k_extra "STEPS"
      k_extra "LV"
      exact ret _ _ _ _ (x.fdiv k) i _ _ _ (Int.fmod_nonneg_of_pos _ k0) (Int.fmod_lt_of_pos _ k0) (Int.fdiv_nonneg x0 (Int.le_of_lt k0)) (by k_extra "OM") (by k_extra "OM") (by with_reducible assumption) (News.join (by assumption))
  · k_extra "STEPS"
    k_extra "LV"
    exact ret _ _ _ _ (x.fdiv k) i _ _ _ (Int.fmod_nonneg_of_pos _ k0) (Int.fmod_lt_of_pos _ k0) (Int.fdiv_nonneg x0 (Int.le_of_lt k0)) (by k_extra "OM") (by k_extra "OM") (by with_reducible assumption) (News.join (by assumption))
end
end Part23
section Part24
theorem ln26 : True := by
  k_with_none
  (k_with "LIT0" => (first | with_reducible assumption | ((first | (with_reducible show @LE.le Nat _ (OfNat.ofNat _) (OfNat.ofNat _)) | (with_reducible show @LT.lt Nat _ (OfNat.ofNat _) (OfNat.ofNat _))); exact Nat.le_of_ble_eq_true rfl)))
  (k_with "LIT1" => (first | with_reducible assumption | (with_reducible refine' Nat.lt_of_lt_of_le ?ha ?hb; (case ha => with_reducible assumption); (case hb => k_extra "LIT0")) | (with_reducible refine' Nat.lt_of_le_of_lt ?ha ?hb; (case ha => with_reducible assumption); (case hb => k_extra "LIT0")) | (with_reducible refine' Nat.le_trans ?ha ?hb; (case ha => with_reducible assumption); (case hb => k_extra "LIT0")) | (with_reducible refine' Nat.le_of_lt (Nat.lt_of_lt_of_le ?ha ?hb); (case ha => with_reducible assumption); (case hb => k_extra "LIT0")) | (with_reducible refine' Nat.lt_of_le_of_lt (Nat.le_of_eq ?ha) ?hb; (case ha => with_reducible assumption); (case hb => k_extra "LIT0")) | (with_reducible refine' Nat.le_trans (Nat.le_of_eq ?ha) ?hb; (case ha => with_reducible assumption); (case hb => k_extra "LIT0"))))
  (k_with "LIT2" => (first | with_reducible assumption | (with_reducible refine' Nat.lt_of_lt_of_le ?ha ?hb; (case ha => with_reducible assumption); (case hb => k_extra "LIT1")) | (with_reducible refine' Nat.lt_of_le_of_lt ?ha ?hb; (case ha => with_reducible assumption); (case hb => k_extra "LIT1")) | (with_reducible refine' Nat.le_trans ?ha ?hb; (case ha => with_reducible assumption); (case hb => k_extra "LIT1")) | (with_reducible refine' Nat.le_of_lt (Nat.lt_of_lt_of_le ?ha ?hb); (case ha => with_reducible assumption); (case hb => k_extra "LIT1")) | (with_reducible refine' Nat.lt_of_le_of_lt (Nat.le_of_eq ?ha) ?hb; (case ha => with_reducible assumption); (case hb => k_extra "LIT1")) | (with_reducible refine' Nat.le_trans (Nat.le_of_eq ?ha) ?hb; (case ha => with_reducible assumption); (case hb => k_extra "LIT1"))))
  (k_with "OM" => (first | with_reducible assumption | with_reducible exact Int.natCast_nonneg _ | with_reducible exact Int.ofNat_lt.mpr (by with_reducible assumption) | with_reducible exact i63 (by k_extra "LIT2") | k_extra "LIT2" | omega))
  (k_with "LTC" => (first | with_reducible assumption | (refine' Nat.lt_trans ?ha ?hb; (case ha => with_reducible assumption); (case hb => k_extra "LTC"))))
  (k_with "NEC" => ((refine neN ?_; (try dsimp only); first | (refine' Nat.ne_of_lt ?hc; (case hc => k_extra "LTC")) | (refine' Nat.ne_of_gt ?hc; (case hc => k_extra "LTC")) | omega)))
  (k_with "ROOMN" => (first | (refine' roomN ?ha (Nat.add_assoc _ _ _) ?hb; (case ha => with_reducible assumption); (case hb => exact rfl)) | (refine' roomN ?ha rfl ?hb; (case ha => with_reducible assumption); (case hb => exact rfl)) | (refine' roomN ?ha ((Nat.add_assoc _ _ _).trans (Nat.add_assoc _ _ _)) ?hb; (case ha => with_reducible assumption); (case hb => exact rfl)) | exact Nat.lt_of_le_of_lt (Nat.le_add_right _ _) (by with_reducible assumption)))
  (k_with "MKUNITS" => (first | k_extra "ROOMN" | ktr_units))
  (k_with "MKNE" => (first | k_extra "NEC" | ((try dsimp only); assumption) | ((try dsimp only); exact Ne.symm (by assumption)) | ((try dsimp only); exact News.ne (by with_reducible assumption) (by k_mem) (by k_mem) (ne_typ rfl))))
  (k_with "MKALL" => (first | assumption | exact List.forall_mem_nil _ | (refine' List.forall_mem_cons.mpr ⟨?a, ?b⟩; (case a => k_ne); (case b => k_all))))
  (k_with "GET" => (first | exact Fr.keep (by with_reducible assumption) _ _ (by with_reducible assumption) | exact News.get (by with_reducible assumption) (by k_mem)))
  (k_with "MKINST" => (exact instG (by k_extra "GET") (by k_extra "GET")))
  (k_with "MISLIST" => (exact isListG (by k_extra "GET")))
  (k_with "ENTER" => (((case ks => assumption); (case k1 => assumption); (case k2 => assumption); (case k3 => assumption); (case k4 => assumption); (case kr => assumption); (case k5 => assumption); (case kK => assumption); (case k8 => first | k_extra "ROOMN" | ktr_room); (case k6 => k_is); (case k7 => k_is); (case k9 => exact BindsTo.of_eq rfl); (case kB => exact locs rfl); (case c2 => exact rfl); (case c3 => exact rfl); (case c4 => exact rfl); (case c5 => decide))))
  (k_with "subscriptTail" => ((k_here; (with_reducible show wpAny _ _ (subscriptTail _ _ (Value.ref _) (Value.int _ _)) _ _ _); k_dflt (refine' item_list ?k1 ?k2 ?k3 ?k4 ?_; (case k1 => is_list); (case k4 => assumption); (case k2 => k_extra "OM"); (case k3 => k_extra "OM")))))
  (k_with "subscriptTail" => ((k_here; (with_reducible show wpAny _ _ (subscriptTail _ _ (Value.ref _) (Value.int 1 _)) _ _ _); k_dflt (refine' item_tup1 ?k1 ?_; (case k1 => k_extra "GET")))))
  (k_with "subscriptTail" => ((k_here; (with_reducible show wpAny _ _ (subscriptTail _ _ (Value.ref _) (Value.int 0 _)) _ _ _); k_dflt (refine' item_tup0 ?k1 ?_; (case k1 => k_extra "GET")))))
  (k_with "compareOp Eq ref ref" => ((k_here; (with_reducible show wpAny _ _ (compareOp CmpOp.Eq (Value.ref _) (Value.ref _)) _ _ _); k_dflt (refine' eq_tup ?k1 ?k2 ?k3 ?_; (case k1 => k_extra "GET"); (case k2 => k_extra "GET"); (case k3 => k_units)))))
  (k_with "ite" => (first | (refine ite_pos ?c ?_; (case c => ((try simp only [decide_eq_true_eq, beq_iff_eq, Bool.not_eq_true', decide_eq_false_iff_not, ne_eq]); first | assumption | omega))) | (refine ite_neg ?c ?_; (case c => ((try simp only [decide_eq_true_eq, beq_iff_eq, Bool.not_eq_true', decide_eq_false_iff_not, ne_eq]); first | assumption | omega)))))
  (k_with "execs cons" => (((with_reducible refine wpAny_execs_cons ?_); (try dsimp only); k_fold)))
  (k_with "STEPS" => (((try k_fold); (repeat' (first | walk1 | (k_unfold; (try dsimp only)) | (dsimp only; walk1))); (all_goals (try dsimp only)))))
  (k_with "LV" => (((try dsimp only [WhileStep2]); refine' LeaveM.mk ?k1 ?k2 ?_; (case k1 => with_reducible assumption); (case k2 => with_reducible assumption); intro _ nK; (try dsimp only [List.nil_append, List.cons_append] at nK); revert nK; intro _; (try dsimp only))))
  (k_with "ROOM" => (first | k_extra "ROOMN" | (simp only [recursionLimit, cLine] at *; omega)))
  (k_with "CTX" => (((case B => with_reducible assumption); (case F => with_reducible assumption); (case X => with_reducible assumption); (case T => with_reducible assumption); (case hk => first | exact rfl | assumption); (case hd => k_extra "ROOM"); (case hu => k_extra "ROOM"); (case N => with_reducible assumption))))
  (k_with "KEEP" => (first | with_reducible assumption | exact DerV.keep (by with_reducible assumption) (Fr.keep (by with_reducible assumption)) | exact Sto.keep (by with_reducible assumption) (Fr.keep (by with_reducible assumption)) | exact Bok.keep (by with_reducible assumption) (Fr.keep (by with_reducible assumption)) | exact TupG.keep (by with_reducible assumption) (Fr.keep (by with_reducible assumption)) | exact ⟨_, by k_extra "GET"⟩ | exact ⟨_, _, _, _, rfl, by k_extra "GET"⟩ | assumption))
  (k_with "AFTER" => (((try dsimp only); (try k_sweep))))
  (k_with "call builtin:len" => ((k_here; (with_reducible show wpAny _ _ (call (Value.builtin "len") [Value.ref _]) _ _ _); k_dflt (refine' len_any ?k1 ?k2 ?_; (case k1 => is_list); (case k2 => first | with_reducible assumption | ((try simp only [List.length_append, List.length_cons, List.length_nil, List.length_set]); omega))))))
  (k_with "call builtin:list.append" => ((k_here; (with_reducible show wpAny _ _ (call (Value.builtin _) [Value.ref _, _]) _ _ _); k_dflt (refine' append_any ?k1 ?k2 ?k3 ?_ ?z; (case k1 => k_asm); (case k2 => k_asm); (case k3 => k_upd); (case z => first | with_reducible assumption | ((try simp only [List.length_append, List.length_cons, List.length_nil, List.length_set]); omega)); k_whole); intro _ _ _; (try k_sweep))))
  (k_with "setItem ref int" => ((k_here; (with_reducible show wpAny _ _ (setItem (Value.ref _) (Value.int _ _) _) _ _ _); k_dflt (refine' set_any ?k1 ?k2 ?k3 ?k4 ?k5 ?k6 ?_; (case k1 => k_asm); (case k2 => k_asm); (case k3 => k_upd); (case k4 => k_extra "OM"); (case k5 => first | with_reducible assumption | ((try simp only [List.length_append, List.length_cons, List.length_nil, List.length_set]); omega)); (case k6 => k_extra "OM"); k_whole); intro _ _ _; (try k_sweep))))
  (k_with "CTX2" => (((case B => with_reducible assumption); (case F => with_reducible assumption); (case X => with_reducible assumption); (case T => with_reducible assumption); (case hk => first | exact rfl | assumption); (case hd => k_extra "ROOM"); (case hu => k_extra "ROOM"))))
  (k_with "SEP" => (((repeat' (first | assumption | exact sep_nil | refine sep_app ?_ ?_ | refine sep_cons ?_ ?_)); (all_goals ((repeat' (first | exact nmNil | refine nmCons ?_ ?_)); all_goals first | assumption | k_extra "NEC" | exact Ne.symm (by assumption) | exact News.ne (by with_reducible assumption) (by k_mem) (by k_mem) (ne_typ rfl))))))
  (k_with "SPLIT1" => (first | (refine' News.at0 ?n; (case n => with_reducible assumption)) | (refine' News.at1 ?n; (case n => with_reducible assumption)) | (refine' News.at2 ?n; (case n => with_reducible assumption)) | (refine' News.at3 ?n; (case n => with_reducible assumption)) | (refine' News.at4 ?n; (case n => with_reducible assumption)) | (refine' News.at5 ?n; (case n => with_reducible assumption)) | (refine' News.at6 ?n; (case n => with_reducible assumption))))
  (k_with "pyIter ref" => (refine stopHere ?_))
  (k_with "SEPI" => (((repeat' (first | assumption | exact sep_nil | refine sep_app ?_ ?_ | refine sep_cons ?_ ?_)); (all_goals ((try dsimp only); first | assumption | k_extra "NEC" | exact Ne.symm (by assumption))))))
  (k_with "SUBT" => (first | exact sub_refl | (refine sub_cons ?_; k_extra "SUBT") | (refine sub_right ?_; k_extra "SUBT") | (refine sub_left ?_; k_extra "SUBT")))
  (k_with "MEM" => (first | exact memH | (with_reducible refine List.mem_append_right _ ?_; k_extra "MEM") | (with_reducible refine List.mem_append_left _ ?_; k_extra "MEM") | (with_reducible refine memT ?_; k_extra "MEM")))
  (k_with "SUBT2" => (first | exact sub_refl | (with_reducible refine sub_right ?_; k_extra "SUBT2") | (with_reducible refine sub_left ?_; k_extra "SUBT2") | (with_reducible refine sub_cons ?_; k_extra "SUBT2")))
  (k_with "SUBM" => (((repeat' (first | exact sep_nil | refine sep_app ?_ ?_ | refine sep_cons ?_ ?_)); (all_goals first | k_extra "MEM" | k_extra "SUBT2"))))
  (k_with "SUB" => (((repeat' (first | exact sep_nil | refine sep_app ?_ ?_ | refine sep_cons ?_ ?_)); (all_goals first | k_mem | k_extra "MEM" | k_extra "SUBT2" | (simp only [List.mem_append, List.mem_cons, List.not_mem_nil, true_or, or_true, or_false, false_or]; done) | (intro _ hx9; simp only [hx9, List.mem_append, List.mem_cons, List.not_mem_nil, true_or, or_true, or_false, false_or]; done) | k_extra "SUBT"))))
  (k_with "exec For Name Name cons nil" => ((k_here; (with_unfolding_all refine' For_invVF ?kF ?k1 ?k2 ?_; (case kF => assumption); (case k1 => exact rfl); (case k2 => exact rfl); k_whole))))
  (k_with "exec For Name Call cons nil" => ((k_here; (with_unfolding_all refine' For_invVF ?kF ?k1 ?k2 ?_; (case kF => assumption); (case k1 => exact rfl); (case k2 => exact rfl); k_whole))))
  (k_with "exec For Name Subscript cons nil" => ((k_here; (with_unfolding_all refine' For_invVF ?kF ?k1 ?k2 ?_; (case kF => assumption); (case k1 => exact rfl); (case k2 => exact rfl); k_whole))))
  (k_with "exec For Name Attribute cons nil" => ((k_here; (with_unfolding_all refine' For_invVF ?kF ?k1 ?k2 ?_; (case kF => assumption); (case k1 => exact rfl); (case k2 => exact rfl); k_whole))))
  (k_with "KEEP" => (first | with_reducible assumption | exact DerV.keep (by with_reducible assumption) (Fr.keep (by with_reducible assumption)) | exact Sto.keep (by with_reducible assumption) (Fr.keep (by with_reducible assumption)) | exact Bok.keep (by with_reducible assumption) (Fr.keep (by with_reducible assumption)) | exact TupG.keep (by with_reducible assumption) (Fr.keep (by with_reducible assumption)) | exact ⟨_, by k_extra "GET"⟩ | exact ⟨_, _, _, _, rfl, by k_extra "GET"⟩ | assumption))
  trivial
theorem ltN {a b : Addr} (h : a < b) : @LT.lt Nat _ a b := h
inductive IntsN : List Value → List Nat → Prop where
  | nil : IntsN [] []
  | cons {p : Nat} {t : Tok} {vs : List Value} {ps : List Nat} : IntsN vs ps → IntsN (.int (p : Int) t :: vs) (p :: ps)
theorem IntsN.length : ∀ {vs : List Value} {ps : List Nat}, IntsN vs ps → vs.length = ps.length
  | _, _, .nil => rfl
  | _, _, .cons r => congrArg (· + 1) r.length
theorem IntsN.get : ∀ {vs : List Value} {ps : List Nat}, IntsN vs ps → ∀ {i : Nat} {v : Value}, vs[i]? = some v → ∃ (p : Nat) (t : Tok), ps[i]? = some p ∧ v = .int (p : Int) t
  | _, _, .cons r, 0, v, e => by cases e; exact ⟨_, _, rfl, rfl⟩
  | _, _, .cons r, i + 1, v, e => by
    obtain ⟨p, t, a, b⟩ := r.get (i := i) (v := v) (by simpa using e)
    exact ⟨p, t, by simpa using a, b⟩
theorem IntsN.app : ∀ {vs us : List Value} {ps qs : List Nat}, IntsN vs ps → IntsN us qs → IntsN (vs ++ us) (ps ++ qs)
  | _, _, _, _, .nil, h => h
  | _, _, _, _, .cons r, h => .cons (r.app h)
inductive StepsP (pt : List (Addr × Obj)) : List Value → List (List Nat) → Prop where
  | nil : StepsP pt [] []
  | cons {a : Addr} {vs sv : List Value} {n : Nat} {ps : List Nat} {pss : List (List Nat)} : (a, listOf vs.toArray n) ∈ pt → IntsN vs ps → StepsP pt sv pss → StepsP pt (.ref a :: sv) (ps :: pss)
theorem StepsP.length {pt : List (Addr × Obj)} : ∀ {sv : List Value} {pss : List (List Nat)}, StepsP pt sv pss → sv.length = pss.length
  | _, _, .nil => rfl
  | _, _, .cons _ _ r => congrArg (· + 1) r.length
theorem StepsP.mono {pt pt' : List (Addr × Obj)} (s : ∀ x ∈ pt, x ∈ pt') : ∀ {sv : List Value} {pss : List (List Nat)}, StepsP pt sv pss → StepsP pt' sv pss
  | _, _, .nil => .nil
  | _, _, .cons m i r => .cons (s _ m) i (r.mono s)
theorem StepsP.app {pt : List (Addr × Obj)} : ∀ {sv sv' : List Value} {pss pss' : List (List Nat)}, StepsP pt sv pss → StepsP pt sv' pss' → StepsP pt (sv ++ sv') (pss ++ pss')
  | _, _, _, _, .nil, h => h
  | _, _, _, _, .cons m i r, h => .cons m i (r.app h)
theorem StepsP.get {pt : List (Addr × Obj)} : ∀ {sv : List Value} {pss : List (List Nat)}, StepsP pt sv pss → ∀ {i : Nat} {v : Value}, sv[i]? = some v → ∃ a vs n ps, pss[i]? = some ps ∧ v = .ref a ∧ (a, listOf (List.toArray vs) n) ∈ pt ∧ IntsN vs ps
  | _, _, .cons m i r, 0, v, e => by cases e; exact ⟨_, _, _, _, rfl, rfl, m, i⟩
  | _, _, .cons m _ r, i + 1, v, e => by
    obtain ⟨a, vs, n, ps, p, q, x, y⟩ := r.get (i := i) (v := v) (by simpa using e)
    exact ⟨a, vs, n, ps, by simpa using p, q, x, y⟩
theorem StepsP.set {pt : List (Addr × Obj)} {a : Addr} {vs : List Value} {n : Nat} {ps : List Nat} (m : (a, listOf vs.toArray n) ∈ pt) (h : IntsN vs ps) : ∀ {sv : List Value} {pss : List (List Nat)}, StepsP pt sv pss → ∀ i : Nat, StepsP pt (sv.set i (.ref a)) (pss.set i ps)
  | _, _, .nil, _ => .nil
  | _, _, .cons _ _ r, 0 => .cons m h r
  | _, _, .cons m' i' r, i + 1 => .cons m' i' (r.set m h i)
noncomputable def kindS (k : Nat) : Str := match k with | 0 => Str.ofString "compound" | 1 => Str.ofString "bound" | _ => Str.ofString "free"
inductive KindsP : List Value → List Nat → Prop where
  | nil : KindsP [] []
  | cons {k : Nat} {t : Tok} {vs : List Value} {ks : List Nat} : KindsP vs ks → KindsP (.str (kindS k) t :: vs) (k :: ks)
theorem KindsP.length : ∀ {vs : List Value} {ks : List Nat}, KindsP vs ks → vs.length = ks.length
  | _, _, .nil => rfl
  | _, _, .cons r => congrArg (· + 1) r.length
theorem KindsP.app : ∀ {vs us : List Value} {ks ls : List Nat}, KindsP vs ks → KindsP us ls → KindsP (vs ++ us) (ks ++ ls)
  | _, _, _, _, .nil, h => h
  | _, _, _, _, .cons r, h => .cons (r.app h)
theorem KindsP.get : ∀ {vs : List Value} {ks : List Nat}, KindsP vs ks → ∀ {i : Nat} {v : Value}, vs[i]? = some v → ∃ (k : Nat) (t : Tok), ks[i]? = some k ∧ v = .str (kindS k) t
  | _, _, .cons r, 0, v, e => by cases e; exact ⟨_, _, rfl, rfl⟩
  | _, _, .cons r, i + 1, v, e => by
    obtain ⟨p, t, a, b⟩ := r.get (i := i) (v := v) (by simpa using e)
    exact ⟨p, t, by simpa using a, b⟩
theorem KindsP.set {k : Nat} {t : Tok} : ∀ {vs : List Value} {ks : List Nat}, KindsP vs ks → ∀ i : Nat, KindsP (vs.set i (.str (kindS k) t)) (ks.set i k)
  | _, _, .nil, _ => .nil
  | _, _, .cons r, 0 => .cons r
  | _, _, .cons r, i + 1 => .cons (r.set i)
/-- what the law needs of the book -/
structure BookOK (Tx : List Str) (Fx : List (Int × Int)) (i : Nat) : Prop where
  t1 : Tx[1]? = some (Str.ofString ".")
  f0 : Fx[0]? = some (1, 2)
  lt : Tx.length ≤ 1000 + 10 * i
  lf : Fx.length ≤ 1000 + 10 * i
  nn : ∀ c ∈ Fx, 0 ≤ c.2
noncomputable def arOf (Fx : List (Int × Int)) : List Nat := Fx.map fun c => c.2.toNat
theorem book_start : BookOK (funcRow.foldl putF (atomRow.foldl putL [], [])).1 (funcRow.foldl putF (atomRow.foldl putL [], [])).2 0 where
  t1 := by decide +kernel
  f0 := by decide +kernel
  lt := by decide +kernel
  lf := by decide +kernel
  nn := by decide +kernel
theorem putL_at {α : Type} [DecidableEq α] {l : List α} {x y : α} {i : Nat} (h : l[i]? = some y) : (putL l x)[i]? = some y := by
  unfold putL
  split
  · exact h
  · rw [List.getElem?_append_left (List.getElem?_eq_some_iff.mp h).1, h]
theorem putL_ix {α : Type} [DecidableEq α] (l : List α) (x : α) : (putL l x)[ixL (putL l x) x]? = some x := by
  have hm : x ∈ putL l x := by
    unfold putL
    split
    · assumption
    · exact List.mem_append_right _ (.head _)
  unfold ixL
  have := List.idxOf_lt_length_of_mem hm
  rw [List.getElem?_eq_getElem this, List.getElem_idxOf]
theorem BookOK.func {Tx : List Str} {Fx : List (Int × Int)} {i : Nat} (b : BookOK Tx Fx i) (t : Str) (k : Int) (hk : t = Str.ofString "." → k ≠ 2) : 
    (putL Tx t)[1]? = some (Str.ofString ".") ∧ (putL Fx (((ixL (putL Tx t) t : Nat) : Int), k))[0]? = some (1, 2) ∧ 0 < ixL (putL Fx (((ixL (putL Tx t) t : Nat) : Int), k)) (((ixL (putL Tx t) t : Nat) : Int), k) := by
  refine ⟨putL_at b.t1, putL_at b.f0, ?_⟩
  apply Nat.pos_of_ne_zero
  intro e
  have h1 := putL_ix Fx (((ixL (putL Tx t) t : Nat) : Int), k)
  rw [e, putL_at b.f0] at h1
  injection h1 with h1
  injection h1 with h1 h2
  have h3 := putL_ix Tx t
  rw [show ixL (putL Tx t) t = 1 by omega, putL_at b.t1] at h3
  injection h3 with h3
  exact hk h3.symm h2.symm
noncomputable def Lk (H S : List (Int × Int)) (c : Int × Int) : Option (Int × Int) := if c.1 = 0 ∧ 0 ≤ c.2 then H[c.2.toNat]? else if c.1 = 1 ∧ 0 ≤ c.2 then S[c.2.toNat]? else none
theorem Lk.tag {H S : List (Int × Int)} {c d : Int × Int} (h : Lk H S c = some d) : (c.1 = 0 ∧ 0 ≤ c.2 ∧ H[c.2.toNat]? = some d) ∨ (c.1 = 1 ∧ 0 ≤ c.2 ∧ S[c.2.toNat]? = some d) := by
  unfold Lk at h
  split at h
  · exact .inl ⟨by simp_all, by simp_all, h⟩
  · split at h
    · exact .inr ⟨by simp_all, by simp_all, h⟩
    · cases h
theorem Lk.at0 {H S : List (Int × Int)} {c : Int × Int} (h : c.1 = 0) (h0 : 0 ≤ c.2) : Lk H S c = H[c.2.toNat]? := if_pos ⟨h, h0⟩
theorem Lk.at1 {H S : List (Int × Int)} {c : Int × Int} (h : c.1 = 1) (h0 : 0 ≤ c.2) : Lk H S c = S[c.2.toNat]? := by
  unfold Lk
  rw [if_neg (by rintro ⟨a, _⟩; rw [h] at a; cases a), if_pos ⟨h, h0⟩]
theorem Lk.app {H S X Y : List (Int × Int)} {c d : Int × Int} (h : Lk H S c = some d) : Lk (H ++ X) (S ++ Y) c = some d := by
  obtain ⟨a, b, e⟩ | ⟨a, b, e⟩ := Lk.tag h
  · rw [Lk.at0 a b, List.getElem?_append_left (List.getElem?_eq_some_iff.mp e).1, e]
  · rw [Lk.at1 a b, List.getElem?_append_left (List.getElem?_eq_some_iff.mp e).1, e]
theorem Lk.set0 {H S : List (Int × Int)} {c d v : Int × Int} {i : Int} (h0 : 0 ≤ i) (hne : c ≠ (0, i)) (h : Lk H S c = some d) : Lk (H.set i.toNat v) S c = some d := by
  obtain ⟨a, b, e⟩ | ⟨a, b, e⟩ := Lk.tag h
  · rw [Lk.at0 a b, List.getElem?_set_ne, e]
    intro e9
    apply hne
    obtain ⟨c1, c2⟩ := c
    dsimp only at a b e9
    rw [a, show c2 = i by omega]
  · rw [Lk.at1 a b, e]
theorem Lk.set1 {H S : List (Int × Int)} {c d v : Int × Int} {i : Int} (h0 : 0 ≤ i) (hne : c ≠ (1, i)) (h : Lk H S c = some d) : Lk H (S.set i.toNat v) c = some d := by
  obtain ⟨a, b, e⟩ | ⟨a, b, e⟩ := Lk.tag h
  · rw [Lk.at0 a b, e]
  · rw [Lk.at1 a b, List.getElem?_set_ne, e]
    intro e9
    apply hne
    obtain ⟨c1, c2⟩ := c
    dsimp only at a b e9
    rw [a, show c2 = i by omega]
noncomputable def Dr (H S : List (Int × Int)) (c d : Int × Int) : Prop := ∃ n, Der H S n c d
theorem Dr.stop {H S : List (Int × Int)} {c : Int × Int} (h : c.1 ≠ 0) (h1 : c.1 ≠ 1) : Dr H S c c := ⟨0, .stop h h1⟩
theorem Dr.self {H S : List (Int × Int)} {c : Int × Int} (h : Lk H S c = some c) : Dr H S c c := by
  obtain ⟨a, b, e⟩ | ⟨a, b, e⟩ := Lk.tag h
  · exact ⟨0, .self0 a b e⟩
  · exact ⟨0, .self1 a b e⟩
theorem Dr.step {H S : List (Int × Int)} {c c' d : Int × Int} (h : Lk H S c = some c') (hne : c' ≠ c) (r : Dr H S c' d) : Dr H S c d := by
  obtain ⟨n, r⟩ := r
  obtain ⟨a, b, e⟩ | ⟨a, b, e⟩ := Lk.tag h
  · exact ⟨n + 1, .step0 a b e hne r⟩
  · exact ⟨n + 1, .step1 a b e hne r⟩
theorem Dr.ind {H S : List (Int × Int)} {P : Int × Int → Int × Int → Prop} (stop : ∀ c, c.1 ≠ 0 → c.1 ≠ 1 → P c c) (self : ∀ c, Lk H S c = some c → P c c)
    (step : ∀ c c' d, Lk H S c = some c' → c' ≠ c → Dr H S c' d → P c' d → P c d) {c d : Int × Int} (h : Dr H S c d) : P c d := by
  obtain ⟨n, h⟩ := h
  induction h with
  | stop a b => exact stop _ a b
  | self0 a b e => exact self _ (by rw [Lk.at0 a b, e])
  | self1 a b e => exact self _ (by rw [Lk.at1 a b, e])
  | step0 a b e ne r ih => exact step _ _ _ (by rw [Lk.at0 a b, e]) ne ⟨_, r⟩ ih
  | step1 a b e ne r ih => exact step _ _ _ (by rw [Lk.at1 a b, e]) ne ⟨_, r⟩ ih
theorem Dr.fin {H S : List (Int × Int)} {c d : Int × Int} (h : Dr H S c d) : Dr H S d d :=
  Dr.ind (P := fun _ d => Dr H S d d) (fun _ a b => .stop a b) (fun _ a => .self a) (fun _ _ _ _ _ _ ih => ih) h
theorem Dr.out {H S : List (Int × Int)} {c d : Int × Int} (h : Dr H S c d) : (d.1 ≠ 0 ∧ d.1 ≠ 1) ∨ Lk H S d = some d :=
  Dr.ind (P := fun _ d => (d.1 ≠ 0 ∧ d.1 ≠ 1) ∨ Lk H S d = some d) (fun _ a b => .inl ⟨a, b⟩) (fun _ a => .inr a) (fun _ _ _ _ _ _ ih => ih) h
theorem Dr.det {H S : List (Int × Int)} {c d : Int × Int} (h : Dr H S c d) : ∀ {e}, Dr H S c e → d = e := by
  refine Dr.ind (P := fun c d => ∀ {e}, Dr H S c e → d = e) ?_ ?_ ?_ h
  · intro c a b e r
    obtain ⟨n, r⟩ := r
    cases r <;> first | rfl | (exfalso; simp_all; done)
  · intro c a e r
    obtain ⟨n, r⟩ := r
    rcases Lk.tag a with ⟨a1, b1, e1⟩ | ⟨a1, b1, e1⟩ <;> cases r <;> first | rfl | (exfalso; simp_all; done)
  · intro c c' d a ne _ ih e r
    obtain ⟨n, r⟩ := r
    obtain ⟨a1, b1, e1⟩ | ⟨a1, b1, e1⟩ := Lk.tag a
    · cases r with
      | stop x _ => exact absurd a1 x
      | self0 _ _ x => rw [e1] at x; cases x; exact absurd rfl ne
      | self1 x => rw [a1] at x; cases x
      | step0 _ _ x _ r => rw [e1] at x; cases x; exact ih ⟨_, r⟩
      | step1 x => rw [a1] at x; cases x
    · cases r with
      | stop _ x => exact absurd a1 x
      | self0 x => rw [a1] at x; cases x
      | self1 _ _ x => rw [e1] at x; cases x; exact absurd rfl ne
      | step0 x => rw [a1] at x; cases x
      | step1 _ _ x _ r => rw [e1] at x; cases x; exact ih ⟨_, r⟩
theorem Dr.move {H S H' S' : List (Int × Int)} {d r c e : Int × Int} (hv : Lk H S d = some d) (hk : ∀ c c', c ≠ d → Lk H S c = some c' → Lk H' S' c = some c') (hd : Dr H' S' d r) (h : Dr H S c e) :
    Dr H' S' c (if e = d then r else e) := by
  refine Dr.ind (P := fun c e => Dr H' S' c (if e = d then r else e)) ?_ ?_ ?_ h
  · intro c a b
    have : c ≠ d := by
      rintro rfl
      obtain ⟨x, _⟩ | ⟨x, _⟩ := Lk.tag hv
      · exact a x
      · exact b x
    rw [if_neg this]
    exact .stop a b
  · intro c a
    by_cases hc : c = d
    · rw [if_pos hc, hc]; exact hd
    · rw [if_neg hc]; exact .self (hk _ _ hc a)
  · intro c c' d' a ne _ ih
    by_cases hc : c = d
    · rw [hc, hv] at a
      cases a
      exact absurd hc.symm ne
    · exact .step (hk _ _ hc a) ne ih
theorem Dr.mono {H S H' S' : List (Int × Int)} {c e : Int × Int} (hk : ∀ c c', Lk H S c = some c' → Lk H' S' c = some c') (h : Dr H S c e) : Dr H' S' c e :=
  Dr.ind (P := fun c e => Dr H' S' c e) (fun _ a b => .stop a b) (fun _ a => .self (hk _ _ a)) (fun _ _ _ a ne _ ih => .step (hk _ _ a) ne ih) h
theorem Dr.tag {H S : List (Int × Int)} {c d : Int × Int} (tH : ∀ x ∈ H, x.1 ≠ 1) (h : Dr H S c d) : c.1 ≠ 1 → d.1 ≠ 1 := by
  refine Dr.ind (P := fun c d => c.1 ≠ 1 → d.1 ≠ 1) (fun _ _ _ x => x) (fun _ _ x => x) ?_ h
  intro c c' d a ne _ ih hc
  obtain ⟨a1, b1, e1⟩ | ⟨a1, b1, e1⟩ := Lk.tag a
  · exact ih (tH _ (List.mem_of_getElem? e1))
  · exact absurd a1 hc
structure Nd where
  c : Int × Int
  ps : List Nat
  kd : Nat
inductive Path (ns : List Nd) : Nat → Nat → Prop where
  | refl {k} : Path ns k k
  | step {k p g x} : ns[k]? = some x → p ∈ x.ps → Path ns p g → Path ns k g
theorem Path.trans {ns : List Nd} {a b c : Nat} (h : Path ns a b) (h2 : Path ns b c) : Path ns a c := by
  induction h with
  | refl => exact h2
  | step e m _ ih => exact .step e m (ih h2)
theorem Path.mono {ns ms : List Nd} (hk : ∀ (k : Nat) (x : Nd) (p : Nat), ns[k]? = some x → p ∈ x.ps → ∃ y : Nd, ms[k]? = some y ∧ p ∈ y.ps) {a b : Nat} (h : Path ns a b) : Path ms a b := by
  induction h with
  | refl => exact .refl
  | step e m _ ih =>
    obtain ⟨y, e2, m2⟩ := hk _ _ _ e m
    exact .step e2 m2 ih
noncomputable def Cmp (Ar : List Nat) (H S : List (Int × Int)) (rep : Nat → Int × Int) (c : Int × Int) (ps : List Nat) : Prop :=
  isC c = true ∧ 0 ≤ c.2 ∧ c.2 < H.length ∧ AW H Ar c ps.length ∧ ps.length ≤ 2 ∧ ∀ (j : Nat) p, ps[j]? = some p → ∃ d, Lk H S (0, baseOf c + (j : Int)) = some d ∧ d ≠ (0, baseOf c + (j : Int)) ∧ Dr H S d (rep p)
structure WF (Ar : List Nat) (H S : List (Int × Int)) (ns : List Nd) (rep : Nat → Int × Int) (root : Nat → Nat) : Prop where
  der : ∀ (k : Nat) (x : Nd), ns[k]? = some x → Dr H S x.c (rep k)
  lt : ∀ (k : Nat) (x : Nd), ns[k]? = some x → ∀ p ∈ x.ps, p < ns.length
  kds : ∀ (k : Nat) (x : Nd), ns[k]? = some x → x.kd ≤ 2
  comp : ∀ (k : Nat) (x : Nd), ns[k]? = some x → x.kd = 0 → x.c = rep k ∧ Cmp Ar H S rep (rep k) x.ps
  bound : ∀ (k : Nat) (x : Nd), ns[k]? = some x → x.kd = 1 → ∃ p, x.ps = [p] ∧ rep p = rep k ∧ root p = root k
  free : ∀ (k : Nat) (x : Nd), ns[k]? = some x → x.kd = 2 → x.ps = [] ∧ Lk H S (rep k) = some (rep k)
  root : ∀ (k : Nat) (x : Nd), ns[k]? = some x → ∃ y : Nd, ns[root k]? = some y ∧ y.kd ≠ 1 ∧ rep (root k) = rep k ∧ (x.kd ≠ 1 → root k = k) ∧ Path ns k (root k)
  inj2 : ∀ (k l : Nat) (x y : Nd), ns[k]? = some x → ns[l]? = some y → x.kd = 2 → y.kd = 2 → rep k = rep l → k = l
  inj0 : ∀ (k l : Nat) (x y : Nd), ns[k]? = some x → ns[l]? = some y → x.kd = 0 → y.kd = 0 → (rep k).2 = (rep l).2 → k = l
  tagH : ∀ c ∈ H, c.1 ≠ 1
theorem isC_tag {c : Int × Int} (h : isC c = true) : c.1 = 2 ∨ c.1 = 3 := by
  unfold isC at h
  simpa using h
theorem var_notC {H S : List (Int × Int)} {c d : Int × Int} (h : Lk H S c = some d) : isC c = false := by
  unfold isC
  rcases Lk.tag h with ⟨a, _⟩ | ⟨a, _⟩ <;> rw [a] <;> rfl
theorem AW.move {H H' S S' : List (Int × Int)} {Ar : List Nat} {d c : Int × Int} {k : Nat} (hv : Lk H S d = some d) (hk : ∀ c c', c ≠ d → Lk H S c = some c' → Lk H' S' c = some c') (h : AW H Ar c k) : AW H' Ar c k := by
  obtain h | ⟨a, f, b, e, z⟩ := h
  · exact .inl h
  · refine .inr ⟨a, f, b, ?_, z⟩
    have e1 : Lk H S (0, c.2) = some (6, f) := by rw [Lk.at0 (c := (0, c.2)) rfl b]; exact e
    have e2 := hk (0, c.2) (6, f) (by rintro rfl; rw [e1] at hv; cases hv) e1
    rw [Lk.at0 (c := (0, c.2)) rfl b] at e2
    exact e2
theorem AW.mono {H H' S S' : List (Int × Int)} {Ar : List Nat} {c : Int × Int} {k : Nat} (hk : ∀ c c', Lk H S c = some c' → Lk H' S' c = some c') (h : AW H Ar c k) : AW H' Ar c k := by
  obtain h | ⟨a, f, b, e, z⟩ := h
  · exact .inl h
  · refine .inr ⟨a, f, b, ?_, z⟩
    have e2 := hk (0, c.2) (6, f) (by rw [Lk.at0 (c := (0, c.2)) rfl b]; exact e)
    rw [Lk.at0 (c := (0, c.2)) rfl b] at e2
    exact e2
theorem Cmp.move {H H' S S' : List (Int × Int)} {Ar : List Nat} {d r c : Int × Int} {ps : List Nat} {rep : Nat → Int × Int} (hv : Lk H S d = some d) (hk : ∀ c c', c ≠ d → Lk H S c = some c' → Lk H' S' c = some c') (hd : Dr H' S' d r) (hl : H.length ≤ H'.length)
    (h : Cmp Ar H S rep c ps) : Cmp Ar H' S' (fun k => if rep k = d then r else rep k) c ps := by
  obtain ⟨a, b, b2, e, e2, z⟩ := h
  refine ⟨a, b, by omega, e.move hv hk, e2, fun j p hp => ?_⟩
  obtain ⟨x, e3, ne, dx⟩ := z j p hp
  refine ⟨x, hk _ _ ?_ e3, ne, Dr.move hv hk hd dx⟩
  rintro rfl
  rw [e3] at hv
  cases hv
  exact ne rfl
theorem Cmp.mono {H H' S S' : List (Int × Int)} {Ar : List Nat} {c : Int × Int} {ps : List Nat} {rep rep' : Nat → Int × Int} (hk : ∀ c c', Lk H S c = some c' → Lk H' S' c = some c') (hl : H.length ≤ H'.length) (hr : ∀ p ∈ ps, rep' p = rep p)
    (h : Cmp Ar H S rep c ps) : Cmp Ar H' S' rep' c ps := by
  obtain ⟨a, b, b2, e, e2, z⟩ := h
  refine ⟨a, b, by omega, e.mono hk, e2, fun j p hp => ?_⟩
  obtain ⟨x, e3, ne, dx⟩ := z j p hp
  exact ⟨x, hk _ _ e3, ne, (hr p (List.mem_of_getElem? hp)).symm ▸ dx.mono hk⟩
section
variable {Ar : List Nat} {H S H' S' : List (Int × Int)} {ns : List Nd} {rep : Nat → Int × Int} {root : Nat → Nat}
theorem WF.compC (w : WF Ar H S ns rep root) {k : Nat} {x : Nd} (hx : ns[k]? = some x) (h : x.kd = 0) : isC (rep k) = true := (w.comp k x hx h).2.1
theorem WF.freeC (w : WF Ar H S ns rep root) {k : Nat} {x : Nd} (hx : ns[k]? = some x) (h : x.kd = 2) : isC (rep k) = false := var_notC (w.free k x hx h).2
theorem kd0 {k : Nat} (h : k ≤ 2) (h1 : k ≠ 1) (h2 : ¬ k = 2) : k = 0 := by omega
theorem kd2 {k : Nat} (h : k ≤ 2) (h1 : k ≠ 1) (h2 : ¬ k = 0) : k = 2 := by omega
theorem WF.rootEq (w : WF Ar H S ns rep root) {k g : Nat} {x y : Nd} (hx : ns[k]? = some x) (hy : ns[g]? = some y) (hg : y.kd ≠ 1) (e : rep k = rep g) : root k = g := by
  obtain ⟨z, hz, h1, h2, _, _⟩ := w.root k x hx
  have kz := w.kds _ _ hz
  have ky := w.kds _ _ hy
  by_cases c0 : z.kd = 0
  · have c1 := w.compC hz c0
    have : y.kd = 0 := by
      by_cases c2 : y.kd = 2
      · have := w.freeC hy c2
        rw [h2, e, this] at c1
        cases c1
      · exact kd0 ky hg c2
    exact w.inj0 _ _ _ _ hz hy c0 this (by rw [h2, e])
  · have c0 : z.kd = 2 := kd2 kz h1 c0
    have c1 := w.freeC hz c0
    have : y.kd = 2 := by
      by_cases c2 : y.kd = 0
      · have := w.compC hy c2
        rw [h2, e, this] at c1
        cases c1
      · exact kd2 ky hg c2
    exact w.inj2 _ _ _ _ hz hy c0 this (by rw [h2, e])
theorem WF.pathRoot (w : WF Ar H S ns rep root) {k g : Nat} {x y : Nd} (hx : ns[k]? = some x) (hy : ns[g]? = some y) (hg : y.kd ≠ 1) : Path ns k g ↔ Path ns (root k) g := by
  constructor
  · intro h
    induction h generalizing x with
    | refl =>
      obtain ⟨z, hz, _, _, h3, _⟩ := w.root _ x hx
      rw [hx] at hy
      cases hy
      rw [h3 hg]
      exact .refl
    | @step k p g x' e m r ih =>
      obtain rfl : x = x' := Option.some.inj (hx.symm.trans e)
      by_cases hk : x.kd = 1
      · obtain ⟨q, e1, e2, e3⟩ := w.bound _ _ hx hk
        rw [e1] at m
        cases List.mem_singleton.mp m
        rw [← e3]
        obtain ⟨z, hz⟩ : ∃ z, ns[p]? = some z := by
          have := w.lt _ _ hx p (by rw [e1]; exact .head _)
          exact ⟨_, List.getElem?_eq_getElem this⟩
        exact ih hz hy
      · obtain ⟨z, hz, _, _, h3, _⟩ := w.root _ x hx
        rw [h3 hk]
        exact .step hx m r
  · intro h
    obtain ⟨z, hz, _, _, _, h5⟩ := w.root _ x hx
    exact h5.trans h
theorem WF.move (w : WF Ar H S ns rep root) {d r : Int × Int} (hv : Lk H S d = some d) (hk : ∀ c c', c ≠ d → Lk H S c = some c' → Lk H' S' c = some c') (hd : Dr H' S' d r) (hf : Lk H S r = none) (hr : Lk H' S' r = some r) (hl : H.length ≤ H'.length) (tH : ∀ c ∈ H', c.1 ≠ 1) :
    WF Ar H' S' ns (fun k => if rep k = d then r else rep k) root where
  der k x hx := Dr.move hv hk hd (w.der k x hx)
  lt := w.lt
  kds := w.kds
  comp k x hx h := by
    obtain ⟨e, c⟩ := w.comp k x hx h
    have hne : rep k ≠ d := by
      rintro e9
      have := w.compC hx h
      rw [e9, var_notC hv] at this
      cases this
    (try dsimp only)
    rw [if_neg hne]
    exact ⟨e, c.move hv hk hd hl⟩
  bound k x hx h := by
    obtain ⟨p, e, e1, e2⟩ := w.bound k x hx h
    exact ⟨p, e, by (try dsimp only); rw [e1], e2⟩
  free k x hx h := by
    obtain ⟨e, v⟩ := w.free k x hx h
    refine ⟨e, ?_⟩
    (try dsimp only)
    by_cases c : rep k = d
    · rw [if_pos c]; exact hr
    · rw [if_neg c]; exact hk _ _ c v
  root k x hx := by
    obtain ⟨y, a, b, c, e⟩ := w.root k x hx
    exact ⟨y, a, b, by (try dsimp only); rw [c], e⟩
  inj2 k l x y hx hy a b e := by
    refine w.inj2 k l x y hx hy a b ?_
    have f1 := (w.free k x hx a).2
    have f2 := (w.free l y hy b).2
    (try dsimp only at e)
    by_cases c : rep k = d
    · by_cases c2 : rep l = d
      · rw [c, c2]
      · rw [if_pos c, if_neg c2] at e
        rw [← e, hf] at f2
        cases f2
    · by_cases c2 : rep l = d
      · rw [if_neg c, if_pos c2] at e
        rw [e, hf] at f1
        cases f1
      · rwa [if_neg c, if_neg c2] at e
  inj0 k l x y hx hy a b e := by
    have f1 := w.compC hx a
    have f2 := w.compC hy b
    have hC := var_notC hv
    have n1 : rep k ≠ d := by rintro e9; rw [e9, hC] at f1; cases f1
    have n2 : rep l ≠ d := by rintro e9; rw [e9, hC] at f2; cases f2
    (try dsimp only at e)
    rw [if_neg n1, if_neg n2] at e
    exact w.inj0 k l x y hx hy a b e
  tagH := tH
theorem WF.bind (w : WF Ar H S ns rep root) {a o : Nat} {x y : Nd} (hx : ns[a]? = some x) (ha : x.kd = 2) (hy : ns[o]? = some y) (hne : root o ≠ a) (hk : ∀ c c', c ≠ rep a → Lk H S c = some c' → Lk H' S' c = some c') (hd : Dr H' S' (rep a) (rep o)) (hl : H.length ≤ H'.length) (tH : ∀ c ∈ H', c.1 ≠ 1) :
    WF Ar H' S' (ns.set a ⟨x.c, [o], 1⟩) (fun k => if rep k = rep a then rep o else rep k) (fun k => if root k = a then root o else root k) := by
  have hv := (w.free a x hx ha).2
  have la := (List.getElem?_eq_some_iff.mp hx).1
  have lo := (List.getElem?_eq_some_iff.mp hy).1
  have ra : root a = a := by
    obtain ⟨_, _, _, _, e, _⟩ := w.root a x hx
    exact e (by omega)
  have hro : ¬ rep o = rep a := fun e => hne (w.rootEq hy hx (by omega) e)
  have hge : ∀ k y, k ≠ a → (ns.set a ⟨x.c, [o], 1⟩)[k]? = some y → ns[k]? = some y := fun k y n e => by rwa [List.getElem?_set_ne (Ne.symm n)] at e
  have heg : ∀ k y, k ≠ a → ns[k]? = some y → (ns.set a ⟨x.c, [o], 1⟩)[k]? = some y := fun k y n e => by rwa [List.getElem?_set_ne (Ne.symm n)]
  have haa : (ns.set a ⟨x.c, [o], 1⟩)[a]? = some ⟨x.c, [o], 1⟩ := List.getElem?_set_self la
  have pm : ∀ {k g}, Path ns k g → Path (ns.set a ⟨x.c, [o], 1⟩) k g := fun h => Path.mono (fun k z p hz hp => by
    by_cases c : k = a
    · subst c
      rw [hx] at hz
      cases hz
      rw [(w.free _ _ hx ha).1] at hp
      cases hp
    · exact ⟨z, heg _ _ c hz, hp⟩) h
  have key : ∀ k z, ns[k]? = some z → root k = a → rep k = rep a := fun k z hz e => by
    obtain ⟨_, _, _, h, _⟩ := w.root k z hz
    rw [← h, e]
  have key2 : ∀ k z, ns[k]? = some z → rep k = rep a → root k = a := fun k z hz e => w.rootEq hz hx (by omega) e
  refine { der := ?_, lt := ?_, kds := ?_, comp := ?_, bound := ?_, free := ?_, root := ?_, inj2 := ?_, inj0 := ?_, tagH := tH }
  · intro k z hz
    by_cases c : k = a
    · subst c
      rw [haa] at hz
      cases hz
      exact Dr.move hv hk hd (w.der k x hx)
    · exact Dr.move hv hk hd (w.der _ _ (hge _ _ c hz))
  · intro k z hz p hp
    rw [List.length_set]
    by_cases c : k = a
    · subst c
      rw [haa] at hz
      cases hz
      rwa [List.mem_singleton.mp hp]
    · exact w.lt _ _ (hge _ _ c hz) p hp
  · intro k z hz
    by_cases c : k = a
    · subst c
      rw [haa] at hz
      cases hz
      exact Nat.le_succ 1
    · exact w.kds _ _ (hge _ _ c hz)
  · intro k z hz h
    by_cases c : k = a
    · subst c
      rw [haa] at hz
      cases hz
      cases h
    · have hz := hge _ _ c hz
      obtain ⟨e, cc⟩ := w.comp k z hz h
      have hne : rep k ≠ rep a := by
        rintro e9
        have := w.compC hz h
        rw [e9, var_notC hv] at this
        cases this
      (try dsimp only)
      rw [if_neg hne]
      exact ⟨e, cc.move hv hk hd hl⟩
  · intro k z hz h
    by_cases c : k = a
    · subst c
      rw [haa] at hz
      cases hz
      refine ⟨o, rfl, ?_, ?_⟩
      · (try dsimp only)
        rw [if_neg hro, if_pos rfl]
      · (try dsimp only)
        rw [if_neg hne, if_pos ra]
    · obtain ⟨p, e, e1, e2⟩ := w.bound k z (hge _ _ c hz) h
      exact ⟨p, e, by (try dsimp only); rw [e1], by (try dsimp only); rw [e2]⟩
  · intro k z hz h
    by_cases c : k = a
    · subst c
      rw [haa] at hz
      cases hz
      cases h
    · have hz := hge _ _ c hz
      obtain ⟨e, v⟩ := w.free k z hz h
      have : rep k ≠ rep a := fun e => c (w.inj2 _ _ _ _ hz hx h ha e)
      (try dsimp only)
      rw [if_neg this]
      exact ⟨e, hk _ _ this v⟩
  · intro k z hz
    obtain ⟨yo, ho, ho1, ho2, _, ho3⟩ := w.root o y hy
    by_cases c : k = a
    · subst c
      rw [haa] at hz
      cases hz
      (try dsimp only)
      rw [if_pos ra, if_pos rfl]
      refine ⟨yo, heg _ _ hne ho, ho1, ?_, fun h => absurd rfl h, .step haa (.head _) (pm ho3)⟩
      rw [ho2, if_neg hro]
    · have hz := hge _ _ c hz
      obtain ⟨y1, h1, h2, h3, h4, h5⟩ := w.root k z hz
      (try dsimp only)
      by_cases c2 : root k = a
      · rw [if_pos c2, if_pos (key _ _ hz c2)]
        refine ⟨yo, heg _ _ hne ho, ho1, ?_, ?_, ?_⟩
        · rw [ho2, if_neg hro]
        · intro h
          exact absurd ((h4 h).symm.trans c2) c
        · exact (pm (c2 ▸ h5)).trans (.step haa (.head _) (pm ho3))
      · rw [if_neg c2]
        refine ⟨y1, heg _ _ c2 h1, h2, by rw [h3], h4, pm h5⟩
  · intro k l z z' hz hz' h h' e
    by_cases c : k = a
    · subst c
      rw [haa] at hz
      cases hz
      cases h
    · by_cases c2 : l = a
      · subst c2
        rw [haa] at hz'
        cases hz'
        cases h'
      · have hz := hge _ _ c hz
        have hz' := hge _ _ c2 hz'
        have n1 : rep k ≠ rep a := fun e => c (w.inj2 _ _ _ _ hz hx h ha e)
        have n2 : rep l ≠ rep a := fun e => c2 (w.inj2 _ _ _ _ hz' hx h' ha e)
        (try dsimp only at e)
        rw [if_neg n1, if_neg n2] at e
        exact w.inj2 _ _ _ _ hz hz' h h' e
  · intro k l z z' hz hz' h h' e
    by_cases c : k = a
    · subst c
      rw [haa] at hz
      cases hz
      cases h
    · by_cases c2 : l = a
      · subst c2
        rw [haa] at hz'
        cases hz'
        cases h'
      · have hz := hge _ _ c hz
        have hz' := hge _ _ c2 hz'
        have f1 := w.compC hz h
        have f2 := w.compC hz' h'
        have hC := var_notC hv
        have n1 : rep k ≠ rep a := by rintro e9; rw [e9, hC] at f1; cases f1
        have n2 : rep l ≠ rep a := by rintro e9; rw [e9, hC] at f2; cases f2
        (try dsimp only at e)
        rw [if_neg n1, if_neg n2] at e
        exact w.inj0 _ _ _ _ hz hz' h h' e
end
theorem sepOne {nt : List (Addr × Obj)} {X : Addr} {o : Obj} (h : ∀ q ∈ nt, q.1 ≠ X) : ∀ q ∈ nt, q.1 ∉ [(X, o)].map (·.1) := fun q hq => by simpa using h q hq
theorem sepTwo {nt : List (Addr × Obj)} {X Y : Addr} {o o' : Obj} (h : ∀ q ∈ nt, q.1 ≠ X) (h' : ∀ q ∈ nt, q.1 ≠ Y) : ∀ q ∈ nt, q.1 ∉ [(X, o), (Y, o')].map (·.1) := fun q hq => by
  have := h q hq
  have := h' q hq
  simp_all
theorem sepFour {nt : List (Addr × Obj)} {X Y Z W : Addr} {o o' o2 o3 : Obj} (h : ∀ q ∈ nt, q.1 ≠ X) (h' : ∀ q ∈ nt, q.1 ≠ Y) (h2 : ∀ q ∈ nt, q.1 ≠ Z) (h3 : ∀ q ∈ nt, q.1 ≠ W) : ∀ q ∈ nt, q.1 ∉ [(X, o), (Y, o'), (Z, o2), (W, o3)].map (·.1) := fun q hq => by
  have := h q hq
  have := h' q hq
  have := h2 q hq
  have := h3 q hq
  simp_all
noncomputable def Hid (p : Prop) : Prop := p
theorem abN {l : List (Addr × Obj)} {K X : Addr} (h : ∀ q ∈ l, K < q.1) (hX : X < K) : ∀ q ∈ l, q.1 ≠ X := fun q hq => Nat.ne_of_gt (Nat.lt_trans hX (h q hq))
theorem abE {l : List (Addr × Obj)} {K : Addr} (h : ∀ q ∈ l, K < q.1) : ∀ q ∈ l, q.1 ≠ K := fun q hq => Nat.ne_of_gt (h q hq)
theorem WF.nil {Ar : List Nat} {rep : Nat → Int × Int} {root : Nat → Nat} : WF Ar [] [] [] rep root where
  der _ _ h := by simp at h
  lt _ _ h := by simp at h
  kds _ _ h := by simp at h
  comp _ _ h := by simp at h
  bound _ _ h := by simp at h
  free _ _ h := by simp at h
  root _ _ h := by simp at h
  inj2 _ _ _ _ h := by simp at h
  inj0 _ _ _ _ h := by simp at h
  tagH _ h := by simp at h
/-- the state of the law at the head of a turn -/
structure LawS (prog : Program) (w : World) (KL : Addr) (wl : Nat) (i : Nat) (x0 xi : Int) (hs ss ts fs cv sv kv : List Value) (oA oF : Obj) (nt pt : List (Addr × Obj)) (Tx : List Str) (Fx Ha Sa : List (Int × Int)) (ns : List Nd) : Prop where
  hx0 : 0 ≤ x0
  hxi : 0 ≤ xi
  hxl : xi ≤ (wl : Int)
  cH : CellsP (TupL nt) hs Ha
  cS : CellsP (TupL nt) ss Sa
  cC : CellsP (TupL nt) cv (ns.map (·.c))
  sP : StepsP pt sv (ns.map (·.ps))
  kP : KindsP kv (ns.map (·.kd))
  aP : AtomsP prog w Tx ts oA
  fP : FunsP prog w (TupL nt) Fx fs oF
  bk : BookOK Tx Fx i
  wf : ∃ rep root, WF (arOf Fx) Ha Sa ns rep root
  ln : ns.length = i
  lH : Ha.length ≤ 6 * i
  lS : Sa.length ≤ i
  tn : ∀ q ∈ nt, q.2.cls = .type "tuple"
  tp : ∀ q ∈ pt, KL < q.1
  fr : 0 < i → ∃ x, ns[0]? = some x ∧ x.kd = 2
theorem len6 {a b n : Nat} (e : a = b) (h : b = n) (hn : n ≤ 6) : a ≤ 100 := by omega
theorem len36 {a b n : Nat} (e : a = b) (h : b ≤ 6 * n) (hn : n ≤ 6) : a ≤ 100 := by omega
theorem len1 {a b n : Nat} (e : a = b) (h : b ≤ n) (hn : n ≤ 6) : a ≤ 100 := by omega
theorem lt6 {a b n : Nat} (h : a < b) (e : b = n) (hn : n ≤ 6) : a < 100 := by omega
theorem ltAs {a b c : Nat} (h : a < b) (e : c = b) : a < c := e ▸ h
structure Ne17 (I a1 a2 a3 a4 a5 a6 a7 a8 a9 a10 a11 a12 a13 a14 a15 a16 a17 : Addr) (pt nt : List (Addr × Obj)) : Prop where
  i1 : ¬ a1 = I
  i2 : ¬ a2 = I
  i3 : ¬ a3 = I
  i4 : ¬ a4 = I
  i5 : ¬ a5 = I
  i6 : ¬ a6 = I
  i7 : ¬ a7 = I
  i8 : ¬ a8 = I
  i9 : ¬ a9 = I
  i10 : ¬ a10 = I
  i11 : ¬ a11 = I
  i12 : ¬ a12 = I
  i13 : ¬ a13 = I
  i14 : ¬ a14 = I
  i15 : ¬ a15 = I
  i16 : ¬ a16 = I
  i17 : ¬ a17 = I
  ip : ∀ q ∈ pt, ¬ q.1 = I
  it : ∀ q ∈ nt, ¬ q.1 = I
theorem neSplit {I a1 a2 a3 a4 a5 a6 a7 a8 a9 a10 a11 a12 a13 a14 a15 a16 a17 : Addr} {o1 o2 o3 o4 o5 o6 o7 o8 o9 o10 o11 o12 o13 o14 o15 o16 o17 : Obj} {pt nt : List (Addr × Obj)}
    (h : ∀ p ∈ (a1, o1) :: (a2, o2) :: (a3, o3) :: (a4, o4) :: (a5, o5) :: (a6, o6) :: (a7, o7) :: (a8, o8) :: (a9, o9) :: (a10, o10) :: ([(a11, o11), (a12, o12), (a13, o13), (a14, o14), (a15, o15), (a16, o16), (a17, o17)] ++ (pt ++ nt)), ¬ p.1 = I) : Ne17 I a1 a2 a3 a4 a5 a6 a7 a8 a9 a10 a11 a12 a13 a14 a15 a16 a17 pt nt where
  i1 := h (a1, o1) (.head _)
  i2 := h (a2, o2) (.tail _ (.head _))
  i3 := h (a3, o3) (.tail _ (.tail _ (.head _)))
  i4 := h (a4, o4) (.tail _ (.tail _ (.tail _ (.head _))))
  i5 := h (a5, o5) (.tail _ (.tail _ (.tail _ (.tail _ (.head _)))))
  i6 := h (a6, o6) (.tail _ (.tail _ (.tail _ (.tail _ (.tail _ (.head _))))))
  i7 := h (a7, o7) (.tail _ (.tail _ (.tail _ (.tail _ (.tail _ (.tail _ (.head _)))))))
  i8 := h (a8, o8) (.tail _ (.tail _ (.tail _ (.tail _ (.tail _ (.tail _ (.tail _ (.head _))))))))
  i9 := h (a9, o9) (.tail _ (.tail _ (.tail _ (.tail _ (.tail _ (.tail _ (.tail _ (.tail _ (.head _)))))))))
  i10 := h (a10, o10) (.tail _ (.tail _ (.tail _ (.tail _ (.tail _ (.tail _ (.tail _ (.tail _ (.tail _ (.head _))))))))))
  i11 := h (a11, o11) (.tail _ (.tail _ (.tail _ (.tail _ (.tail _ (.tail _ (.tail _ (.tail _ (.tail _ (.tail _ (.head _)))))))))))
  i12 := h (a12, o12) (.tail _ (.tail _ (.tail _ (.tail _ (.tail _ (.tail _ (.tail _ (.tail _ (.tail _ (.tail _ (.tail _ (.head _))))))))))))
  i13 := h (a13, o13) (.tail _ (.tail _ (.tail _ (.tail _ (.tail _ (.tail _ (.tail _ (.tail _ (.tail _ (.tail _ (.tail _ (.tail _ (.head _)))))))))))))
  i14 := h (a14, o14) (.tail _ (.tail _ (.tail _ (.tail _ (.tail _ (.tail _ (.tail _ (.tail _ (.tail _ (.tail _ (.tail _ (.tail _ (.tail _ (.head _))))))))))))))
  i15 := h (a15, o15) (.tail _ (.tail _ (.tail _ (.tail _ (.tail _ (.tail _ (.tail _ (.tail _ (.tail _ (.tail _ (.tail _ (.tail _ (.tail _ (.tail _ (.head _)))))))))))))))
  i16 := h (a16, o16) (.tail _ (.tail _ (.tail _ (.tail _ (.tail _ (.tail _ (.tail _ (.tail _ (.tail _ (.tail _ (.tail _ (.tail _ (.tail _ (.tail _ (.tail _ (.head _))))))))))))))))
  i17 := h (a17, o17) (.tail _ (.tail _ (.tail _ (.tail _ (.tail _ (.tail _ (.tail _ (.tail _ (.tail _ (.tail _ (.tail _ (.tail _ (.tail _ (.tail _ (.tail _ (.tail _ (.head _)))))))))))))))))
  ip := fun q hq => h q (.tail _ (.tail _ (.tail _ (.tail _ (.tail _ (.tail _ (.tail _ (.tail _ (.tail _ (.tail _ (.tail _ (.tail _ (.tail _ (.tail _ (.tail _ (.tail _ (.tail _ (List.mem_append_right _ (List.mem_append_left _ hq)))))))))))))))))))
  it := fun q hq => h q (.tail _ (.tail _ (.tail _ (.tail _ (.tail _ (.tail _ (.tail _ (.tail _ (.tail _ (.tail _ (.tail _ (.tail _ (.tail _ (.tail _ (.tail _ (.tail _ (.tail _ (List.mem_append_right _ (List.mem_append_right _ hq)))))))))))))))))))
inductive JL (prog : Program) (w : World) (wl : Nat) (U H S TX AN FL FN CL SL KL D st dst bk dbk : Addr) (fixL : List (Addr × Obj)) (i : Nat) (m : Str → Option Value) (news : List (Addr × Obj)) : Prop where
  | mk (x0 xi : Int) (t0 t1 : Tok) (nU : Nat) (hs : List Value) (nH : Nat) (ss : List Value) (nS : Nat) (ts : List Value) (n1 : Nat) (oA : Obj) (fs : List Value) (n2 : Nat) (oF : Obj) (cv : List Value) (nC : Nat) (sv : List Value) (nSL : Nat) (kv : List Value) (nK : Nat) (nt pt : List (Addr × Obj)) (Tx : List Str) (Fx Ha Sa : List (Int × Int)) (ns : List Nd) (ag : Agree m [(Str.ofString "urn", .ref U), (Str.ofString "book", .ref bk), (Str.ofString "store", .ref st), (Str.ofString "steps", .ref SL)]) (e : news = (U, listOf [.int x0 t0, .ref D, .int xi t1].toArray nU) :: (H, listOf (List.toArray hs) nH) :: (S, listOf (List.toArray ss) nS) :: (TX, listOf (List.toArray ts) n1) :: (AN, oA) :: (FL, listOf (List.toArray fs) n2) :: (FN, oF) :: (CL, listOf (List.toArray cv) nC) :: (SL, listOf (List.toArray sv) nSL) :: (KL, listOf (List.toArray kv) nK) :: (fixL ++ (pt ++ nt))) (LS : LawS prog w KL wl i x0 xi hs ss ts fs cv sv kv oA oF nt pt Tx Fx Ha Sa ns) : JL prog w wl U H S TX AN FL FN CL SL KL D st dst bk dbk fixL i m news
noncomputable def lawDef : Stmt := PySem.Challenge.pw_rh0088_01.main.body.getLastD (.Pass ⟨0, 0, 0, 0⟩)
noncomputable def lawBody : List Stmt := match lawDef with | .FunctionDef _ _ b _ _ _ _ _ _ _ => b | _ => []
noncomputable def lawScope : Scope := match lawDef with | .FunctionDef _ _ _ _ _ _ s _ _ _ => s | _ => default
noncomputable def forBody (k : Nat) : List Stmt := match lawBody[k]? with | some (.For _ _ b _ _) => b | _ => []
noncomputable def forRest (k j : Nat) : List Stmt := (forBody k).drop j
noncomputable def cntN (wy : Int) : Nat := if wy = 0 then 2 else if wy = 1 then 1 else if wy = 2 then 2 else 1
noncomputable def selTok (wy : Int) (a b c d e : Tok) : Tok := if wy = 0 then a else if wy = 1 then b else if wy = 2 then c else if wy = 3 then d else e
theorem cntAt {wy : Int} {a b c d e : Tok} (h0 : 0 ≤ wy) (h : wy < 5) : [Value.int 2 a, .int 1 b, .int 2 c, .int 1 d, .int 1 e][wy.toNat]? = some (.int ((cntN wy : Nat) : Int) (selTok wy a b c d e)) := by
  obtain rfl | rfl | rfl | rfl | rfl : wy = 0 ∨ wy = 1 ∨ wy = 2 ∨ wy = 3 ∨ wy = 4 := by omega
  all_goals rfl
theorem cntN_le (wy : Int) : cntN wy ≤ 2 ∧ 1 ≤ cntN wy := by
  unfold cntN
  repeat' split
  all_goals omega
theorem allLt_mem {d : Addr} {l : List (Addr × Obj)} (h : AllLt d l) : ∀ p ∈ l, p.1 < d := by
  induction l with
  | nil => intro p hp; cases hp
  | cons x r ih =>
    intro p hp
    cases hp with
    | head => exact h.1
    | tail _ hp => exact ih h.2 p hp
theorem neMap {l l' : List (Addr × Obj)} {I : Addr} (h : ∀ p ∈ l, ¬ p.1 = I) (e : l'.map (·.1) = l.map (·.1)) : ∀ p ∈ l', ¬ p.1 = I := fun p hp hI => by
  have : p.1 ∈ l'.map (·.1) := List.mem_map_of_mem hp
  rw [e] at this
  obtain ⟨q, hq, e2⟩ := List.mem_map.mp this
  exact h q hq (e2.trans hI)
/-- within a turn: the thing is made, but not yet written down -/
structure LawM (prog : Program) (w : World) (KL : Addr) (wl : Nat) (i : Nat) (x0 xi : Int) (hs ss ts fs cv sv kv : List Value) (oA oF : Obj) (nt pt : List (Addr × Obj)) (Tx : List Str) (Fx Ha Sa : List (Int × Int)) (ns : List Nd) (nd : Nd) (mv : Value) : Prop where
  hx0 : 0 ≤ x0
  hxi : 0 ≤ xi
  hxl : xi ≤ (wl : Int)
  cH : CellsP (TupL nt) hs Ha
  cS : CellsP (TupL nt) ss Sa
  cC : CellsP (TupL nt) cv (ns.map (·.c))
  sP : StepsP pt sv (ns.map (·.ps))
  kP : KindsP kv (ns.map (·.kd))
  aP : AtomsP prog w Tx ts oA
  fP : FunsP prog w (TupL nt) Fx fs oF
  bk : BookOK Tx Fx (i + 1)
  wf : ∃ rep root, WF (arOf Fx) Ha Sa (ns ++ [nd]) rep root
  ln : ns.length = i
  lH : Ha.length ≤ 6 * (i + 1)
  lS : Sa.length ≤ i + 1
  tn : ∀ q ∈ nt, q.2.cls = .type "tuple"
  tp : ∀ q ∈ pt, KL < q.1
  mdp : TupL nt mv nd.c
  fr : 0 < i → ∃ x, ns[0]? = some x ∧ x.kd = 2
inductive JM (prog : Program) (w : World) (wl : Nat) (U H S TX AN FL FN CL SL KL D st dst bk dbk : Addr) (fixL : List (Addr × Obj)) (i : Nat) (mv : Value) (ps : List Nat) (kd : Nat) (m : Str → Option Value) (news : List (Addr × Obj)) : Prop where
  | mk (x0 xi : Int) (t0 t1 : Tok) (nU : Nat) (hs : List Value) (nH : Nat) (ss : List Value) (nS : Nat) (ts : List Value) (n1 : Nat) (oA : Obj) (fs : List Value) (n2 : Nat) (oF : Obj) (cv : List Value) (nC : Nat) (sv : List Value) (nSL : Nat) (kv : List Value) (nK : Nat) (nt pt : List (Addr × Obj)) (Tx : List Str) (Fx Ha Sa : List (Int × Int)) (ns : List Nd) (c : Int × Int) (ag : Agree m [(Str.ofString "urn", .ref U), (Str.ofString "book", .ref bk), (Str.ofString "store", .ref st), (Str.ofString "steps", .ref SL)]) (e : news = (U, listOf [.int x0 t0, .ref D, .int xi t1].toArray nU) :: (H, listOf (List.toArray hs) nH) :: (S, listOf (List.toArray ss) nS) :: (TX, listOf (List.toArray ts) n1) :: (AN, oA) :: (FL, listOf (List.toArray fs) n2) :: (FN, oF) :: (CL, listOf (List.toArray cv) nC) :: (SL, listOf (List.toArray sv) nSL) :: (KL, listOf (List.toArray kv) nK) :: (fixL ++ (pt ++ nt))) (LS : LawM prog w KL wl i x0 xi hs ss ts fs cv sv kv oA oF nt pt Tx Fx Ha Sa ns ⟨c, ps, kd⟩ mv) : JM prog w wl U H S TX AN FL FN CL SL KL D st dst bk dbk fixL i mv ps kd m news
noncomputable def kindOf3 (wy : Int) : Nat := if wy < 3 then 0 else if wy < 5 then 1 else 2
theorem sub_cons_refl {l : List (Addr × Obj)} {y : Addr × Obj} : ∀ x ∈ l, x ∈ y :: l := fun _ h => .tail _ h
theorem at_snoc {α : Type} {l : List α} {x y : α} {k : Nat} (h : (l ++ [x])[k]? = some y) : (k < l.length ∧ l[k]? = some y) ∨ (k = l.length ∧ y = x) := by
  by_cases c : k < l.length
  · rw [List.getElem?_append_left c] at h
    exact .inl ⟨c, h⟩
  · have := (List.getElem?_eq_some_iff.mp h).1
    simp only [List.length_append, List.length_cons, List.length_nil] at this
    have e : k = l.length := by omega
    subst e
    simp at h
    exact .inr ⟨rfl, h.symm⟩
section
variable {Ar : List Nat} {H S H' S' : List (Int × Int)} {ns : List Nd} {rep : Nat → Int × Int} {root : Nat → Nat}
theorem WF.add (w : WF Ar H S ns rep root) {x : Nd} {e : Int × Int} (hk : ∀ c c', Lk H S c = some c' → Lk H' S' c = some c') (hl : H.length ≤ H'.length) (tH : ∀ c ∈ H', c.1 ≠ 1) (hd : Dr H' S' x.c e) (hlt : ∀ p ∈ x.ps, p < ns.length)
    (hc : (x.kd = 0 ∧ x.c = e ∧ Cmp Ar H' S' rep e x.ps ∧ (H.length : Int) ≤ e.2) ∨ (x.kd = 1 ∧ ∃ p, x.ps = [p] ∧ rep p = e) ∨ (x.kd = 2 ∧ x.ps = [] ∧ Lk H' S' e = some e ∧ Lk H S e = none)) :
    WF Ar H' S' (ns ++ [x]) (fun k => if k = ns.length then e else rep k) (fun k => if k = ns.length then (if x.kd = 1 then root (x.ps.headD 0) else ns.length) else root k) := by
  have ro : ∀ {k : Nat}, k < ns.length → (if k = ns.length then e else rep k) = rep k := fun h => if_neg (Nat.ne_of_lt h)
  have rn : (if ns.length = ns.length then e else rep ns.length) = e := if_pos rfl
  have so : ∀ {k : Nat} {y : Nd}, ns[k]? = some y → (ns ++ [x])[k]? = some y := fun h => by rw [List.getElem?_append_left (List.getElem?_eq_some_iff.mp h).1, h]
  have sn : (ns ++ [x])[ns.length]? = some x := by simp
  have pm : ∀ {k g}, Path ns k g → Path (ns ++ [x]) k g := fun h => Path.mono (fun k z p hz hp => ⟨z, so hz, hp⟩) h
  have lk : ∀ {k : Nat} {y : Nd}, ns[k]? = some y → k < ns.length := fun h => (List.getElem?_eq_some_iff.mp h).1
  refine { der := ?_, lt := ?_, kds := ?_, comp := ?_, bound := ?_, free := ?_, root := ?_, inj2 := ?_, inj0 := ?_, tagH := tH }
  · intro k y h
    (try dsimp only)
    obtain ⟨c, h⟩ | ⟨rfl, rfl⟩ := at_snoc h
    · rw [ro c]; exact (w.der k y h).mono hk
    · rw [rn]; exact hd
  · intro k y h p hp
    rw [List.length_append, List.length_singleton]
    obtain ⟨c, h⟩ | ⟨rfl, rfl⟩ := at_snoc h
    · exact Nat.lt_succ_of_lt (w.lt k y h p hp)
    · exact Nat.lt_succ_of_lt (hlt p hp)
  · intro k y h
    obtain ⟨c, h⟩ | ⟨rfl, rfl⟩ := at_snoc h
    · exact w.kds k y h
    · rcases hc with ⟨a, _⟩ | ⟨a, _⟩ | ⟨a, _⟩ <;> omega
  · intro k y h h0
    (try dsimp only)
    obtain ⟨c, h⟩ | ⟨rfl, rfl⟩ := at_snoc h
    · rw [ro c]
      obtain ⟨a, b⟩ := w.comp k y h h0
      exact ⟨a, b.mono hk hl fun p hp => ro (w.lt k y h p hp)⟩
    · rw [rn]
      obtain ⟨_, a, b, _⟩ | ⟨a, _⟩ | ⟨a, _⟩ := hc
      · obtain ⟨b1, b2, b3, b4, b5, b6⟩ := b
        refine ⟨a, b1, b2, b3, b4, b5, fun j p hp => ?_⟩
        have := hlt p (List.mem_of_getElem? hp)
        (try dsimp only)
        rw [ro this]
        exact b6 j p hp
      · omega
      · omega
  · intro k y h h1
    (try dsimp only)
    obtain ⟨c, h⟩ | ⟨rfl, rfl⟩ := at_snoc h
    · obtain ⟨p, a, b, d⟩ := w.bound k y h h1
      have hp := w.lt k y h p (by rw [a]; exact .head _)
      refine ⟨p, a, ?_, ?_⟩
      · rw [ro c, ro hp, b]
      · rw [if_neg (Nat.ne_of_lt c), if_neg (Nat.ne_of_lt hp), d]
    · obtain ⟨a, _⟩ | ⟨_, p, a, b⟩ | ⟨a, _⟩ := hc
      · omega
      · have hp := hlt p (by rw [a]; exact .head _)
        refine ⟨p, a, ?_, ?_⟩
        · rw [rn, ro hp, b]
        · rw [if_pos rfl, if_pos h1, if_neg (Nat.ne_of_lt hp), a]
          rfl
      · omega
  · intro k y h h2
    (try dsimp only)
    obtain ⟨c, h⟩ | ⟨rfl, rfl⟩ := at_snoc h
    · obtain ⟨a, b⟩ := w.free k y h h2
      rw [ro c]
      exact ⟨a, hk _ _ b⟩
    · obtain ⟨a, _⟩ | ⟨a, _⟩ | ⟨_, a, b, _⟩ := hc
      · omega
      · omega
      · rw [rn]; exact ⟨a, b⟩
  · intro k y h
    (try dsimp only)
    obtain ⟨c, h⟩ | ⟨rfl, rfl⟩ := at_snoc h
    · obtain ⟨z, a, b, d, f, g⟩ := w.root k y h
      rw [if_neg (Nat.ne_of_lt c), ro (lk a), ro c]
      exact ⟨z, so a, b, d, f, pm g⟩
    · rw [if_pos rfl]
      by_cases h1 : y.kd = 1
      · rw [if_pos h1]
        obtain ⟨a, _⟩ | ⟨_, p, a, b⟩ | ⟨a, _⟩ := hc
        · omega
        · have hp := hlt p (by rw [a]; exact .head _)
          obtain ⟨z, a1, b1, d, f, g⟩ := w.root p _ (List.getElem?_eq_getElem hp)
          have e5 : root (y.ps.headD 0) = root p := by rw [a]; rfl
          rw [e5, ro (lk a1), rn]
          exact ⟨z, so a1, b1, d.trans b, fun h => absurd h1 h, .step sn (by rw [a]; exact .head _) (pm g)⟩
        · omega
      · rw [if_neg h1]
        exact ⟨y, sn, h1, rfl, fun _ => rfl, .refl⟩
  · intro k l y z hy hz h2 h2' er
    (try dsimp only at er)
    rcases at_snoc hy with ⟨c, hy'⟩ | ⟨rfl, rfl⟩ <;> rcases at_snoc hz with ⟨c', hz'⟩ | ⟨rfl, rfl⟩
    · rw [ro c, ro c'] at er
      exact w.inj2 k l y z hy' hz' h2 h2' er
    · rw [ro c, rn] at er
      obtain ⟨a, _⟩ | ⟨a, _⟩ | ⟨_, _, _, a⟩ := hc
      · omega
      · omega
      · rw [← er, (w.free k y hy' h2).2] at a; cases a
    · rw [ro c', rn] at er
      obtain ⟨a, _⟩ | ⟨a, _⟩ | ⟨_, _, _, a⟩ := hc
      · omega
      · omega
      · rw [er, (w.free l z hz' h2').2] at a; cases a
    · rfl
  · intro k l y z hy hz h2 h2' er
    (try dsimp only at er)
    rcases at_snoc hy with ⟨c, hy'⟩ | ⟨rfl, rfl⟩ <;> rcases at_snoc hz with ⟨c', hz'⟩ | ⟨rfl, rfl⟩
    · rw [ro c, ro c'] at er
      exact w.inj0 k l y z hy' hz' h2 h2' er
    · rw [ro c, rn] at er
      obtain ⟨_, _, _, a⟩ | ⟨a, _⟩ | ⟨a, _⟩ := hc
      · have := (w.comp k y hy' h2).2.2.2.1
        omega
      · omega
      · omega
    · rw [ro c', rn] at er
      obtain ⟨_, _, _, a⟩ | ⟨a, _⟩ | ⟨a, _⟩ := hc
      · have := (w.comp l z hz' h2').2.2.2.1
        omega
      · omega
      · omega
    · rfl
theorem Lk.appH {X : List (Int × Int)} {c d : Int × Int} (h : Lk H S c = some d) : Lk (H ++ X) S c = some d := by
  have := Lk.app (X := X) (Y := []) h
  rwa [List.append_nil] at this
theorem Lk.appS {X : List (Int × Int)} {c d : Int × Int} (h : Lk H S c = some d) : Lk H (S ++ X) c = some d := by
  have := Lk.app (X := []) (Y := X) h
  rwa [List.append_nil] at this
theorem Lk.newH {c : Int × Int} : Lk (H ++ [c]) S (0, (H.length : Int)) = some c := by
  rw [Lk.at0 rfl (Int.natCast_nonneg _)]
  simp
theorem Lk.newS {c : Int × Int} : Lk H (S ++ [c]) (1, (S.length : Int)) = some c := by
  rw [Lk.at1 rfl (Int.natCast_nonneg _)]
  simp
theorem Lk.noH : Lk H S (0, (H.length : Int)) = none := by
  rw [Lk.at0 rfl (Int.natCast_nonneg _)]
  simp
theorem Lk.noS : Lk H S (1, (S.length : Int)) = none := by
  rw [Lk.at1 rfl (Int.natCast_nonneg _)]
  simp
theorem tag_snoc {c : Int × Int} (tH : ∀ x ∈ H, x.1 ≠ 1) (hc : c.1 ≠ 1) : ∀ x ∈ H ++ [c], x.1 ≠ 1 := fun x hx => by
  obtain h | h := List.mem_append.mp hx
  · exact tH x h
  · rw [List.mem_singleton.mp h]; exact hc
theorem Dr.known {c d : Int × Int} (h : Dr H S c d) : (c.1 ≠ 0 ∧ c.1 ≠ 1) ∨ ∃ c', Lk H S c = some c' := by
  obtain ⟨n, h⟩ := h
  cases h with
  | stop a b => exact .inl ⟨a, b⟩
  | self0 a b c => exact .inr ⟨_, by rw [Lk.at0 a b, c]⟩
  | self1 a b c => exact .inr ⟨_, by rw [Lk.at1 a b, c]⟩
  | step0 a b c => exact .inr ⟨_, by rw [Lk.at0 a b, c]⟩
  | step1 a b c => exact .inr ⟨_, by rw [Lk.at1 a b, c]⟩
theorem WF.free0 (w : WF Ar H S ns rep root) : ∃ rep root, WF Ar (H ++ [(0, (H.length : Int))]) S (ns ++ [⟨(0, (H.length : Int)), [], 2⟩]) rep root :=
  ⟨_, _, w.add (e := (0, (H.length : Int))) (fun _ _ h => Lk.appH h) (by simp) (tag_snoc w.tagH (by show (0 : Int) ≠ 1; decide)) (.self Lk.newH) (fun _ h => nomatch h) (.inr (.inr ⟨rfl, rfl, Lk.newH, Lk.noH⟩))⟩
theorem WF.free1 (w : WF Ar H S ns rep root) : ∃ rep root, WF Ar H (S ++ [(1, (S.length : Int))]) (ns ++ [⟨(1, (S.length : Int)), [], 2⟩]) rep root :=
  ⟨_, _, w.add (e := (1, (S.length : Int))) (fun _ _ h => Lk.appS h) (Nat.le_refl _) w.tagH (.self Lk.newS) (fun _ h => nomatch h) (.inr (.inr ⟨rfl, rfl, Lk.newS, Lk.noS⟩))⟩
theorem WF.bound1 (w : WF Ar H S ns rep root) {p : Nat} {y : Nd} (hy : ns[p]? = some y) : ∃ rep root, WF Ar H (S ++ [y.c]) (ns ++ [⟨(1, (S.length : Int)), [p], 1⟩]) rep root := by
  have hp := (List.getElem?_eq_some_iff.mp hy).1
  refine ⟨_, _, w.add (e := rep p) (fun _ _ h => Lk.appS h) (Nat.le_refl _) w.tagH (.step Lk.newS ?_ ((w.der p y hy).mono fun _ _ h => Lk.appS h)) (fun q hq => by rw [List.mem_singleton.mp hq]; exact hp) (.inr (.inl ⟨rfl, p, rfl, rfl⟩))⟩
  intro e
  obtain ⟨_, a⟩ | ⟨c', a⟩ := (w.der p y hy).known
  · rw [e] at a; exact a rfl
  · rw [e, Lk.noS] at a; cases a
theorem WF.bound0 (w : WF Ar H S ns rep root) {p : Nat} {y : Nd} {d : Int × Int} (hy : ns[p]? = some y) (hd : Dr H S d (rep p)) (h1 : d.1 ≠ 1) : ∃ rep root, WF Ar (H ++ [d]) S (ns ++ [⟨(0, (H.length : Int)), [p], 1⟩]) rep root := by
  have hp := (List.getElem?_eq_some_iff.mp hy).1
  refine ⟨_, _, w.add (e := rep p) (fun _ _ h => Lk.appH h) (by simp) (tag_snoc w.tagH h1) (.step Lk.newH ?_ (hd.mono fun _ _ h => Lk.appH h)) (fun q hq => by rw [List.mem_singleton.mp hq]; exact hp) (.inr (.inl ⟨rfl, p, rfl, rfl⟩))⟩
  rintro rfl
  obtain ⟨a, _⟩ | ⟨c', a⟩ := hd.known
  · exact a rfl
  · rw [Lk.noH] at a; cases a
/-- one cell is moved to the heap -/
theorem WF.glob (w : WF Ar H S ns rep root) {k : Nat} {y : Nd} (hy : ns[k]? = some y) {cs : List (Int × Int)} :
    ∃ (H1 S1 : List (Int × Int)) (rep1 : Nat → Int × Int), WF Ar H1 S1 ns rep1 root ∧ (rep1 k).1 ≠ 1 ∧ (∀ j, (rep j).1 ≠ 1 → rep1 j = rep j) ∧ H.length ≤ H1.length ∧ H1.length ≤ H.length + 1 ∧ S1.length = S.length ∧ (∀ H' S' ds, Globs H1 S1 cs H' S' ds → Globs H S (y.c :: cs) H' S' (rep1 k :: ds)) := by
  obtain ⟨n, hn⟩ := w.der k y hy
  by_cases c : (rep k).1 = 1
  · have hv : Lk H S (rep k) = some (rep k) := by
      obtain ⟨_, a⟩ | a := (w.der k y hy).out
      · exact absurd c a
      · exact a
    obtain ⟨a, _⟩ | ⟨_, h0, e0⟩ := Lk.tag hv
    · rw [c] at a; cases a
    have hlt : (rep k).2 < (S.length : Int) := by
      have := (List.getElem?_eq_some_iff.mp e0).1
      omega
    have e1 : rep k = (1, (rep k).2) := Prod.ext c rfl
    have hk : ∀ c c', c ≠ rep k → Lk H S c = some c' → Lk (H ++ [(0, (H.length : Int))]) (S.set (rep k).2.toNat (0, (H.length : Int))) c = some c' := fun c c' hne h => Lk.appH (Lk.set1 h0 (e1 ▸ hne) h)
    have hnew : Lk (H ++ [(0, (H.length : Int))]) (S.set (rep k).2.toNat (0, (H.length : Int))) (0, (H.length : Int)) = some (0, (H.length : Int)) := Lk.newH
    refine ⟨H ++ [(0, (H.length : Int))], S.set (rep k).2.toNat (0, (H.length : Int)), _, w.move hv hk (r := (0, (H.length : Int))) (.step (c' := (0, (H.length : Int))) ?_ ?_ (.self hnew)) Lk.noH hnew (by simp) (tag_snoc w.tagH (by show (0 : Int) ≠ 1; decide)), ?_, ?_, by simp, by simp, by simp, ?_⟩
    · rw [Lk.at1 c h0, List.getElem?_set_self (List.getElem?_eq_some_iff.mp e0).1]
    · intro e; rw [← e] at c; cases c
    · rw [if_pos rfl]; show (0 : Int) ≠ 1; decide
    · intro j hj
      rw [if_neg (fun e => hj (by rw [e]; exact c))]
    · intro H' S' ds hg
      rw [if_pos rfl]
      exact .move hn c h0 hlt hg
  · exact ⟨H, S, rep, w, c, fun _ _ => rfl, Nat.le_refl _, Nat.le_succ _, rfl, fun H' S' ds hg => .keep hn c hg⟩
noncomputable def rowOf (ns : List Nd) (ps : List Nat) : List (Int × Int) := ps.map fun p => ((ns[p]?).map (·.c)).getD (0, 0)
theorem WF.globs : ∀ (ps : List Nat) {H S : List (Int × Int)} {rep : Nat → Int × Int}, WF Ar H S ns rep root → (∀ p ∈ ps, p < ns.length) →
    ∃ (H1 S1 : List (Int × Int)) (rep1 : Nat → Int × Int), WF Ar H1 S1 ns rep1 root ∧ (∀ p ∈ ps, (rep1 p).1 ≠ 1) ∧ (∀ j, (rep j).1 ≠ 1 → rep1 j = rep j) ∧ Globs H S (rowOf ns ps) H1 S1 (ps.map rep1)
  | [], H, S, rep, w, _ => ⟨H, S, rep, w, (fun _ h => nomatch h), fun _ _ => rfl, .nil⟩
  | p :: ps, H, S, rep, w, hlt => by
    have hp := hlt p (.head _)
    refine Classical.byContradiction fun nGo => ?_
    obtain ⟨H1, S1, rep1, w1, a, b, _, _, _, g⟩ := w.glob (List.getElem?_eq_getElem hp) (cs := rowOf ns ps)
    obtain ⟨H2, S2, rep2, w2, a2, b2, g2⟩ := WF.globs ps w1 fun q hq => hlt q (.tail _ hq)
    refine nGo ?_; clear nGo
    have e : rep2 p = rep1 p := b2 p a
    refine ⟨H2, S2, rep2, w2, ?_, fun j hj => ?_, ?_⟩
    · intro q hq
      obtain rfl | hq := List.mem_cons.mp hq
      · rw [e]; exact a
      · exact a2 q hq
    · have := b j hj
      rw [b2 j (by rw [this]; exact hj), this]
    · have := g _ _ _ g2
      rw [← e] at this
      have e3 : rowOf ns (p :: ps) = ns[p].c :: rowOf ns ps := by
        unfold rowOf
        rw [List.map_cons, List.getElem?_eq_getElem hp]
        rfl
      rw [e3]
      exact this
end
section
variable {Ar : List Nat} {H S H' S' : List (Int × Int)} {ns : List Nd} {rep : Nat → Int × Int} {root : Nat → Nat}
theorem headOf_len {f : Int} : (headOf f).length = if f = 0 then 0 else 1 := by
  unfold headOf
  split <;> rfl
theorem base_of {f : Int} {n : Nat} : baseOf (tagOf f, (n : Int)) = ((n + (headOf f).length : Nat) : Int) := by
  unfold baseOf tagOf headOf
  by_cases h : f = 0 <;> simp [h]
theorem WF.struct (w : WF Ar H S ns rep root) {ps : List Nat} {f : Int} (hp : ∀ p ∈ ps, p < ns.length) (hps : ps.length ≤ 2) (h0 : 0 ≤ f) (har : (f = 0 ∧ ps.length = 2) ∨ (0 < f ∧ Ar[f.toNat]? = some ps.length)) :
    ∃ H1 S1 ds, Globs H S (rowOf ns ps) H1 S1 ds ∧ ∃ rep root, WF Ar (H1 ++ (headOf f ++ ds)) S1 (ns ++ [⟨(tagOf f, (H1.length : Int)), ps, 0⟩]) rep root := by
  obtain ⟨H1, S1, rep1, w1, a, _, g⟩ := w.globs ps hp
  refine ⟨H1, S1, _, g, _, _, w1.add (e := (tagOf f, (H1.length : Int))) (fun _ _ h => Lk.appH h) (by simp) ?_ (.stop ?_ ?_) hp (.inl ⟨rfl, rfl, ?_, Int.le_refl _⟩)⟩
  · intro c hc
    obtain h | h := List.mem_append.mp hc
    · exact w1.tagH c h
    · obtain h | h := List.mem_append.mp h
      · unfold headOf at h
        split at h
        · cases h
        · rw [List.mem_singleton.mp h]; show (6 : Int) ≠ 1; decide
      · obtain ⟨p, hp', rfl⟩ := List.mem_map.mp h
        exact a p hp'
  · show tagOf f ≠ 0
    unfold tagOf
    split <;> decide
  · show tagOf f ≠ 1
    unfold tagOf
    split <;> decide
  · refine ⟨?_, Int.natCast_nonneg _, ?_, ?_, hps, ?_⟩
    · unfold isC tagOf
      by_cases h : f = 0 <;> simp [h]
    · show (H1.length : Int) < _
      simp only [List.length_append, List.length_map, headOf_len]
      obtain ⟨rfl, e⟩ | ⟨h, e⟩ := har
      · rw [if_pos rfl, e]; omega
      · rw [if_neg (by omega)]; omega
    · obtain ⟨rfl, e⟩ | ⟨h, e⟩ := har
      · exact .inl ⟨rfl, e⟩
      · have hf : ¬ f = 0 := by omega
        refine .inr ⟨if_neg hf, f, Int.natCast_nonneg _, ?_, h0, e⟩
        rw [show headOf f = [(6, f)] from if_neg hf]
        simp
    · intro j p hj
      have hl := (List.getElem?_eq_some_iff.mp hj).1
      have e1 : baseOf (tagOf f, (H1.length : Int)) + (j : Int) = ((H1.length + (headOf f).length + j : Nat) : Int) := by rw [base_of]; omega
      rw [e1]
      have e2 : Lk (H1 ++ (headOf f ++ ps.map rep1)) S1 (0, ((H1.length + (headOf f).length + j : Nat) : Int)) = some (rep1 p) := by
        rw [Lk.at0 rfl (Int.natCast_nonneg _)]
        show (H1 ++ (headOf f ++ ps.map rep1))[((H1.length + (headOf f).length + j : Nat) : Int).toNat]? = _
        rw [Int.toNat_natCast, List.getElem?_append_right (by omega), List.getElem?_append_right (by omega), List.getElem?_map, show H1.length + (headOf f).length + j - H1.length - (headOf f).length = j by omega, hj]
        rfl
      have hpn := hp p (List.mem_of_getElem? hj)
      have hd := w1.der p _ (List.getElem?_eq_getElem hpn)
      refine ⟨_, e2, ?_, hd.fin.mono fun _ _ h => Lk.appH h⟩
      intro e
      obtain ⟨x, _⟩ | x := hd.out
      · rw [e] at x; exact x rfl
      · rw [e, Lk.at0 rfl (Int.natCast_nonneg _)] at x
        have := (List.getElem?_eq_some_iff.mp x).1
        simp only [Int.toNat_natCast] at this
        omega
theorem WF.arMono {Ar' : List Nat} (w : WF Ar H S ns rep root) (h : ∀ (i k : Nat), Ar[i]? = some k → Ar'[i]? = some k) : WF Ar' H S ns rep root := by
  refine { der := w.der, lt := w.lt, kds := w.kds, comp := ?_, bound := w.bound, free := w.free, root := w.root, inj2 := w.inj2, inj0 := w.inj0, tagH := w.tagH }
  intro k x hx h0
  obtain ⟨e, a, b, c, d, r⟩ := w.comp k x hx h0
  refine ⟨e, a, b, c, ?_, r⟩
  obtain d | ⟨d1, f, d2, d3, d4, d5⟩ := d
  · exact .inl d
  · exact .inr ⟨d1, f, d2, d3, d4, h _ _ d5⟩
theorem Dr.avoid {d c e : Int × Int} (hv : Lk H S d = some d) (hk : ∀ c c', c ≠ d → Lk H S c = some c' → Lk H' S' c = some c') (h : Dr H S c e) (hne : e ≠ d) : Dr H' S' c e := by
  revert hne
  refine Dr.ind (P := fun c e => e ≠ d → Dr H' S' c e) ?_ ?_ ?_ h
  · intro c a b _
    exact .stop a b
  · intro c a hc
    exact .self (hk _ _ hc a)
  · intro c c' e a ne r ih he
    refine .step (hk _ _ ?_ a) ne (ih he)
    rintro rfl
    rw [hv] at a
    cases a
    exact ne rfl
theorem WF.varOf (w : WF Ar H S ns rep root) {a o : Nat} {x y : Nd} (hx : ns[a]? = some x) (ha : x.kd = 2) (hy : ns[o]? = some y) (hne : root o ≠ a) : Lk H S (rep a) = some (rep a) ∧ rep o ≠ rep a :=
  ⟨(w.free a x hx ha).2, fun e => hne (w.rootEq hy hx (by omega) e)⟩
theorem WF.bindS (w : WF Ar H S ns rep root) {a o : Nat} {x y : Nd} (hx : ns[a]? = some x) (ha : x.kd = 2) (hy : ns[o]? = some y) (hne : root o ≠ a) (h1 : (rep a).1 = 1) :
    ∃ rep' root', WF Ar H (S.set (rep a).2.toNat y.c) (ns.set a ⟨x.c, [o], 1⟩) rep' root' := by
  obtain ⟨hv, hro⟩ := w.varOf hx ha hy hne
  obtain ⟨t, _⟩ | ⟨_, h0, e0⟩ := Lk.tag hv
  · rw [h1] at t; cases t
  have e1 : rep a = (1, (rep a).2) := Prod.ext h1 rfl
  have hk : ∀ c c', c ≠ rep a → Lk H S c = some c' → Lk H (S.set (rep a).2.toNat y.c) c = some c' := fun c c' hn h => Lk.set1 h0 (e1 ▸ hn) h
  refine ⟨_, _, w.bind hx ha hy hne hk (.step (c' := y.c) ?_ ?_ ((w.der o y hy).avoid hv hk hro)) (Nat.le_refl _) w.tagH⟩
  · rw [Lk.at1 h1 h0, List.getElem?_set_self (List.getElem?_eq_some_iff.mp e0).1]
  · intro e
    exact hro ((w.der o y hy).det (show Dr H S y.c (rep a) by rw [e]; exact .self hv))
theorem WF.bindH (w : WF Ar H S ns rep root) {a o : Nat} {x y : Nd} {d : Int × Int} (hx : ns[a]? = some x) (ha : x.kd = 2) (hy : ns[o]? = some y) (hne : root o ≠ a) (h1 : (rep a).1 = 0) (hd : Dr H S d (rep o)) (hd1 : d.1 ≠ 1) :
    ∃ rep' root', WF Ar (H.set (rep a).2.toNat d) S (ns.set a ⟨x.c, [o], 1⟩) rep' root' := by
  obtain ⟨hv, hro⟩ := w.varOf hx ha hy hne
  obtain ⟨_, h0, e0⟩ | ⟨t, _⟩ := Lk.tag hv
  case inr => rw [h1] at t; cases t
  have e1 : rep a = (0, (rep a).2) := Prod.ext h1 rfl
  have hk : ∀ c c', c ≠ rep a → Lk H S c = some c' → Lk (H.set (rep a).2.toNat d) S c = some c' := fun c c' hn h => Lk.set0 h0 (e1 ▸ hn) h
  refine ⟨_, _, w.bind hx ha hy hne hk (.step (c' := d) ?_ ?_ (hd.avoid hv hk hro)) (by simp) ?_⟩
  · rw [Lk.at0 h1 h0, List.getElem?_set_self (List.getElem?_eq_some_iff.mp e0).1]
  · intro e
    exact hro (hd.det (show Dr H S d (rep a) by rw [e]; exact .self hv))
  · intro c hc
    obtain h | rfl := List.mem_or_eq_of_mem_set hc
    · exact w.tagH c h
    · exact hd1
theorem WF.lfh (w : WF Ar H S ns rep root) {o : Nat} {y : Nd} (hy : ns[o]? = some y) :
    ∃ (H1 S1 : List (Int × Int)) (d : Int × Int) (rep1 : Nat → Int × Int), ForHeap H S y.c H1 S1 d ∧ WF Ar H1 S1 ns rep1 root ∧ Dr H1 S1 d (rep1 o) ∧ d.1 ≠ 1 ∧ (∀ j, (rep j).1 ≠ 1 → rep1 j = rep j) ∧ H1.length ≤ H.length + 1 ∧ S1.length = S.length := by
  by_cases c : y.c.1 = 1
  · obtain ⟨H1, S1, rep1, w1, a, b, _, l1, l2, g⟩ := w.glob hy (cs := [])
    exact ⟨H1, S1, rep1 o, rep1, .inr ⟨c, g _ _ _ .nil⟩, w1, (w1.der o y hy).fin, a, b, l1, l2⟩
  · exact ⟨H, S, y.c, rep, .inl ⟨c, rfl, rfl, rfl⟩, w, w.der o y hy, c, fun _ _ => rfl, Nat.le_succ _, rfl⟩
end
theorem BookOK.succ {Tx : List Str} {Fx : List (Int × Int)} {i : Nat} (b : BookOK Tx Fx i) : BookOK Tx Fx (i + 1) := ⟨b.t1, b.f0, by have := b.lt; omega, by have := b.lf; omega, b.nn⟩
theorem CellsP.tmono {nt nt' : List (Addr × Obj)} {vs : List Value} {cs : List (Int × Int)} (h : CellsP (TupL nt) vs cs) (s : ∀ x ∈ nt, x ∈ nt') : CellsP (TupL nt') vs cs := h.mono fun _ _ t => t.mono s
theorem CellsP.fromQ {nt nt' : List (Addr × Obj)} {vs : List Value} {cs : List (Int × Int)} (h : CellsP (Tq (TupL nt) nt') vs cs) : CellsP (TupL (nt' ++ nt)) vs cs := h.mono fun _ _ t => t.elim (fun t => t.mono fun x hx => List.mem_append_right _ hx) (fun t => t.mono fun x hx => List.mem_append_left _ hx)
theorem TupL.ofQ {nt nt' : List (Addr × Obj)} {v : Value} {c : Int × Int} (t : Tq (TupL nt) nt' v c) : TupL (nt' ++ nt) v c := t.elim (fun t => t.mono fun x hx => List.mem_append_right _ hx) (fun t => t.mono fun x hx => List.mem_append_left _ hx)
theorem IntsN.one {pv : List Value} {p : Nat} (h : IntsN pv [p]) : ∃ t, pv = [Value.int (p : Int) t] := by
  cases h with
  | cons r => cases r; exact ⟨_, rfl⟩
theorem set_snoc {l : List Value} {a x : Value} : (l ++ [a]).set ((l.length : Int)).toNat x = l ++ [x] := by simp
theorem getD_one {x d : Int} : [x].getD (Int.toNat 0) d = x := rfl
noncomputable def selF (wy a b : Int) : Int := if wy = 0 then a else if wy = 1 then b else 0
noncomputable def selTok3 (wy : Int) (a b c : Tok) : Tok := if wy = 0 then a else if wy = 1 then b else c
theorem selAt {wy a b : Int} {ta tb tc : Tok} (h0 : 0 ≤ wy) (h : wy < 3) : [Value.int a ta, .int b tb, .int 0 tc][wy.toNat]? = some (.int (selF wy a b) (selTok3 wy ta tb tc)) := by
  obtain rfl | rfl | rfl : wy = 0 ∨ wy = 1 ∨ wy = 2 := by omega
  all_goals rfl
theorem arOf_at {Fx : List (Int × Int)} {f : Nat} {c : Int × Int} (h : Fx[f]? = some c) : (arOf Fx)[f]? = some c.2.toNat := by
  unfold arOf
  rw [List.getElem?_map, h]
  rfl
theorem arOf_put {Fx : List (Int × Int)} {c : Int × Int} (i k : Nat) (h : (arOf Fx)[i]? = some k) : (arOf (putL Fx c))[i]? = some k := by
  unfold arOf at h
  rw [List.getElem?_map] at h
  cases e : Fx[i]? with
  | none => rw [e] at h; cases h
  | some d =>
    rw [e] at h
    rw [arOf_at (putL_at e)]
    exact h
theorem putL_all {α : Type} [DecidableEq α] {P : α → Prop} {l : List α} {x : α} (h : ∀ c ∈ l, P c) (hx : P x) : ∀ c ∈ putL l x, P c := by
  intro c hc
  unfold putL at hc
  split at hc
  · exact h c hc
  · obtain hc | hc := List.mem_append.mp hc
    · exact h c hc
    · rw [List.mem_singleton.mp hc]; exact hx
/-- the book after the two functors of the law -/
theorem BookOK.two {Tx : List Str} {Fx : List (Int × Int)} {i : Nat} (b : BookOK Tx Fx i) {c1 c2 : Int × Int} {Tx1 Tx2 : List Str} {Fx1 Fx2 : List (Int × Int)} (e1 : Tx1 = putL Tx (Str.ofString "h")) (e2 : c1 = (((ixL Tx1 (Str.ofString "h") : Nat) : Int), 2)) (e3 : Fx1 = putL Fx c1)
    (e4 : Tx2 = putL Tx1 (Str.ofString "g")) (e5 : c2 = (((ixL Tx2 (Str.ofString "g") : Nat) : Int), 1)) (e6 : Fx2 = putL Fx1 c2) :
    BookOK Tx2 Fx2 (i + 1) ∧ 0 < ixL Fx1 c1 ∧ Fx2[ixL Fx1 c1]? = some c1 ∧ 0 < ixL Fx2 c2 ∧ Fx2[ixL Fx2 c2]? = some c2 ∧ Fx2.length ≤ 2000 + 10 * i ∧ ∀ i k : Nat, (arOf Fx)[i]? = some k → (arOf Fx2)[i]? = some k := by
  have z1 : putL Tx (Str.ofString "h") = Tx1 := e1.symm
  have z3 : putL Fx c1 = Fx1 := e3.symm
  have z4 : putL Tx1 (Str.ofString "g") = Tx2 := e4.symm
  have z6 : putL Fx1 c2 = Fx2 := e6.symm
  have k1 := b.func (Str.ofString "h") 2 (by intro h; exact absurd h (by decide +kernel))
  rw [z1, ← e2, z3] at k1
  refine Classical.byContradiction fun nGo => ?_
  obtain ⟨a1, a2, a3⟩ := k1
  have l1 : Tx1.length ≤ Tx.length + 1 := by rw [e1]; exact putL_len1 _ _
  have l2 : Fx1.length ≤ Fx.length + 1 := by rw [e3]; exact putL_len1 _ _
  have l3 : Tx2.length ≤ Tx1.length + 1 := by rw [e4]; exact putL_len1 _ _
  have l4 : Fx2.length ≤ Fx1.length + 1 := by rw [e6]; exact putL_len1 _ _
  have bl := b.lt
  have bf := b.lf
  have n1 : ∀ c ∈ Fx1, 0 ≤ c.2 := by
    rw [e3]
    exact putL_all b.nn (by rw [e2]; show (0 : Int) ≤ 2; decide)
  have b1 : BookOK Tx1 Fx1 (i + 1) := ⟨a1, a2, by omega, by omega, n1⟩
  have k2 := b1.func (Str.ofString "g") 1 (by intro _; decide)
  rw [z4, ← e5, z6] at k2
  obtain ⟨d1, d2, d3⟩ := k2
  refine nGo ?_; clear nGo
  refine ⟨⟨d1, d2, by omega, by omega, by rw [e6]; exact putL_all n1 (by rw [e5]; show (0 : Int) ≤ 1; decide)⟩, a3, ?_, d3, ?_, by omega, fun i k h => ?_⟩
  · rw [e6, e3]; exact putL_at (putL_ix Fx c1)
  · rw [e6]; exact putL_ix Fx1 c2
  · rw [e6, e3]; exact arOf_put _ _ (arOf_put _ _ h)
section
variable {prog : Program} {w : World} {A : Around} {s : Shared} {h₀ : Heap} {L : Addr} {m : Str → Option Value} {env : Env}
/-- a list comprehension over a row of values, each of its turns leaving the ledger as it was -/
theorem comp_rest {elt : PySem.Expr} {x : Str} {scope : Scope} {cl : List (Str × Addr)} {S : List (Addr × Obj) → Prop} {P : Nat → Value → Prop} {R : Nat → Value → Prop} {Fin : List Value → List (Addr × Obj) → Prop} {n : Nat} {news : List (Addr × Obj)} (hS : S news)
    (turn : ∀ i v I oI C oC D m₂ ys h tk (E' : Value → Shared → Prop), i < n → P i v → LCg.NsObj oC m₂ → m₂ x = some v → Fr h₀ L h m → News h₀ L h ((I, oI) :: (C, oC) :: (D, LCg.lst ys) :: news) → LCg.Off3 I C D news → ((@Ne Nat I C) ∧ (@Ne Nat I D) ∧ (@Ne Nat C D)) →
      wpAny (model prog w) A (eval elt (compEnvC scope cl C env)) (fun y s₂ => R i y ∧ ∃ h' tk', s₂ = { s with heap := h', toks := tk' } ∧ Fr h₀ L h' m ∧ News h₀ L h' ((I, oI) :: (C, oC) :: (D, LCg.lst ys) :: news)) E' { s with heap := h, toks := tk })
    (fin : ∀ ys : List Value, ys.length = n → (∀ i y, ys[i]? = some y → R i y) → Fin ys news) : LCg.CompRest prog w A h₀ L m env elt x scope cl s S P Fin n 0 [] news := by
  have key : ∀ j i (ys : List Value), i + j = n → ys.length = i → (∀ k y, ys[k]? = some y → R k y) → LCg.CompRest prog w A h₀ L m env elt x scope cl s S P Fin j i ys news := by
    intro j
    induction j with
    | zero =>
      intro i ys hi hl hy
      exact LCg.CompRest.zero (fin ys (by omega) hy)
    | succ j ih =>
      intro i ys hi hl hy
      refine LCg.CompRest.succ ?_
      intro v I oI C oC D m₂ h tk E' hv hC hx F N off ne
      refine wpAny_mono (turn i v I oI C oC D m₂ ys h tk E' (by omega) hv hC hx F N off ne) (fun y s₂ hq => ?_) fun _ _ e => e
      obtain ⟨hr, h', tk', rfl, F', N'⟩ := hq
      refine ⟨h', tk', news, rfl, F', N', off, hS, ih (i + 1) _ (by omega) (by simp [hl]) ?_⟩
      intro k z hz
      obtain ⟨_, hz⟩ | ⟨rfl, rfl⟩ := at_snoc hz
      · exact hy k z hz
      · rw [hl]; exact hr
  exact key n 0 [] (by omega) rfl (fun _ _ h => by simp at h)
end
theorem off1_mem {D : Addr} {l : List (Addr × Obj)} (h : LCg.Off1 D l) : ∀ p ∈ l, p.1 ≠ D := by
  induction l with
  | nil => intro p hp; cases hp
  | cons x r ih =>
    intro p hp
    cases hp with
    | head => exact h.1
    | tail _ hp => exact ih h.2 p hp
end Part24
section Part25
section
variable {prog : Program} {w : World} {p : Program} {loose : List Str} {mean : ExcName → Option Value} {mg mb : Str → Option Value} {dp un : Nat} {gd : Option (List Code)} {a : Addr} {ccd : Value} {outer : List Env} {A₀ : Around} {base h₀ : Heap} {L : Addr} {m : Str → Option Value} {s₁ : Shared} {h₁ : Heap} {tk₁ : Nat} {Q : Flow → Shared → Prop}
  (B : Below A₀ base outer h₀) (X : (Mine.hd.heap_1 w.params).In h₀) (T : Top p loose mean mg mb h₀) (hd : dp + 60 < recursionLimit) (hu : un + 1200 < cLine)
include B X T hd hu
theorem ln27 : True := by
  (k_with "call ref" => ((k_here; (with_reducible show wpAny _ _ (call (Value.ref 154) _) _ _ _); refine stopHere ?_)))
  (k_with "call ref" => ((k_here; (with_reducible show wpAny _ _ (call (Value.ref 381) _) _ _ _); refine stopHere ?_)))
  (k_with "call ref" => ((k_here; (with_reducible show wpAny _ _ (call (Value.ref 411) _) _ _ _); refine stopHere ?_)))
  (k_with "call ref" => ((k_here; (with_reducible show wpAny _ _ (call (Value.ref 418) _) _ _ _); refine stopHere ?_)))
  (k_with "call ref" => ((k_here; (with_reducible show wpAny _ _ (call (Value.ref 109) _) _ _ _); refine stopHere ?_)))
  (k_with "call ref" => ((k_here; (with_reducible show wpAny _ _ (call (Value.ref 342) _) _ _ _); refine stopHere ?_)))
  (k_with "call ref" => ((k_here; (with_reducible show wpAny _ _ (call (Value.ref 209) _) _ _ _); refine stopHere ?_)))
  (k_with "call ref" => ((k_here; (with_reducible show wpAny _ _ (call (Value.ref 244) _) _ _ _); refine stopHere ?_)))
  (k_with "call ref" => ((k_here; (with_reducible show wpAny _ _ (call (Value.ref 279) _) _ _ _); refine stopHere ?_)))
  (k_with "call ref" => ((k_here; (with_reducible show wpAny _ _ (call (Value.ref 230) _) _ _ _); refine stopHere ?_)))
  (k_with "call ref" => ((k_here; (with_reducible show wpAny _ _ (call (Value.ref 397) _) _ _ _); refine stopHere ?_)))
  (k_with "call ref" => ((k_here; (with_reducible show wpAny _ _ (call (Value.ref 404) _) _ _ _); refine stopHere ?_)))
  (k_with "SEPL" => (((repeat' (first | assumption | exact sep_nil | refine sep_app ?_ ?_ | refine sep_cons ?_ ?_)); (all_goals first | exact sepOne (by assumption) | exact sepTwo (by assumption) (by assumption) | exact sepFour (by assumption) (by assumption) (by assumption) (by assumption) | ((repeat' (first | exact nmNil | refine nmCons ?_ ?_)); all_goals first | assumption | k_extra "NEC" | exact Ne.symm (by assumption) | exact News.ne (by with_reducible assumption) (by k_mem) (by k_mem) (ne_typ rfl))))))
  trivial
theorem law_turn4 {U H S TX AN FL FN CL SL KL D st dst bk dbk Tr I PL : Addr} {ws pv : List Value} {wi : List Int} {kk2 uu kk : Nat → Tok} {o1c o2c oI : Obj} {i nP : Nat} {wy : Int} {tw : Tok} {ps : List Nat} {mv : Value}
    (hws : ws.length ≤ 50) (hI : IntsAre ws wi) (hi6 : Hid (i < 6)) (q1 : D < U) (q2 : U < dbk) (q3 : dbk < bk) (q4 : bk < TX) (q5 : TX < AN) (q6 : AN < FL) (q7 : FL < FN) (q8 : FN < dst) (q9 : dst < st) (q10 : st < H) (q11 : H < S) (q12 : S < CL) (q13 : CL < SL) (q14 : SL < KL) (q15 : L + 1 < D) (q16 : L + 1 + 1 < D)
    (hc1 : o1c.data = .cell (some (.ref CL))) (hc2 : o2c.data = .cell (some (.ref KL))) (cI : oI.cls = .type "range_iterator") {news : List (Addr × Obj)}
    (hJ : JM prog w ws.length U H S TX AN FL FN CL SL KL D st dst bk dbk [(D, listOf ws.toArray 0), (st, instObj 381 dst), (dst, dictOf (stE w.params bk H S Tr kk2 uu) 7), (bk, instObj 154 dbk), (dbk, dictOf (bkE w.params TX AN FL FN kk) 4), (L + 1, o1c), (L + 1 + 1, o2c)] i mv ps (kindOf3 wy) m news) (hne : ∀ p ∈ news, ¬ p.1 = I) (w0 : 0 ≤ wy) (w7 : Hid (wy < 7)) (w5 : wy < 5 → 0 < i) (hPL : KL < PL) (hPI : ¬ PL = I) (iP : IntsN pv ps) (lP : ps.length = if wy < 5 then cntN wy else 0) (pI : ∀ p ∈ ps, p < i)
    (F₁ : Fr h₀ L h₁ (over [(Str.ofString "made", mv), (Str.ofString "parts", .ref PL), (Str.ofString "way", .int wy tw)] m)) (N₁ : News h₀ L h₁ ((PL, listOf pv.toArray nP) :: (I, oI) :: news)) :
    wpAny (model prog w) (ktrTop dp un gd (Str.ofString "law") lawScope L a ccd (cellsFrom (L + 1) lawScope.names []) outer) (execs (forRest 6 5) (envX (Str.ofString "law") lawScope L a ccd (cellsFrom (L + 1) lawScope.names [])))
      (TurnJ h₀ L [(I, oI)] I (JL prog w ws.length U H S TX AN FL FN CL SL KL D st dst bk dbk [(D, listOf ws.toArray 0), (st, instObj 381 dst), (dst, dictOf (stE w.params bk H S Tr kk2 uu) 7), (bk, instObj 154 dbk), (dbk, dictOf (bkE w.params TX AN FL FN kk) 4), (L + 1, o1c), (L + 1 + 1, o2c)] (i + 1)) s₁ Q) (fun _ _ => False) { s₁ with heap := h₁, toks := tk₁ } := by
  generalize hg1 : forRest 6 5 = bd
  generalize hg2 : lawScope = sc
  conv at hg1 => lhs; whnf
  conv at hg2 => lhs; whnf
  subst hg1
  subst hg2
  refine Classical.byContradiction fun nGo => ?_
  obtain ⟨x0, xi, t0, t1, nU, hs, nH, ss, nS, ts, n1, oA, fs, n2, oF, cv, nC, sv, nSL, kv, nK, nt, pt, Tx, Fx, Ha, Sa, ns, c, ag, rfl, LS⟩ := hJ
  rw [ag.form] at F₁
  dsimp only [List.cons_append, List.nil_append] at N₁
  have q1' := ltN q1
  have q2' := ltN q2
  have q3' := ltN q3
  have q4' := ltN q4
  have q5' := ltN q5
  have q6' := ltN q6
  have q7' := ltN q7
  have q8' := ltN q8
  have q9' := ltN q9
  have q10' := ltN q10
  have q11' := ltN q11
  have q12' := ltN q12
  have q13' := ltN q13
  have q14' := ltN q14
  have q15' := ltN q15
  have q16' := ltN q16
  have hne0 := hne
  obtain ⟨i1, i2, i3, i4, i5, i6, i7, i8, i9, i10, i11, i12, i13, i14, i15, i16, i17, ipt, int_⟩ := neSplit hne
  refine nGo ?_; clear nGo
  have hi6' : i < 6 := hi6
  have lH := LS.lH
  have lS := LS.lS
  have lH' := LS.cH.length
  have lS' := LS.cS.length
  have lC' := LS.cC.length
  have lS4 := LS.sP.length
  have lK4 := LS.kP.length
  have ln4 := LS.ln
  rw [List.length_map] at lC' lS4 lK4
  have aCL : ∀ q ∈ pt ++ nt, q.1 ≠ CL := sep_app (abN (X := CL) LS.tp (show @LT.lt Nat _ CL KL by first | k_extra "LTC" | omega)) (News.neAll N₁ (by k_extra "SUBT") LS.tn (by k_mem) list_ne_tuple)
  have aSL : ∀ q ∈ pt ++ nt, q.1 ≠ SL := sep_app (abN (X := SL) LS.tp q14) (News.neAll N₁ (by k_extra "SUBT") LS.tn (by k_mem) list_ne_tuple)
  have aKL : ∀ q ∈ pt ++ nt, q.1 ≠ KL := sep_app (abE LS.tp) (News.neAll N₁ (by k_extra "SUBT") LS.tn (by k_mem) list_ne_tuple)
  have hPL' := ltN hPL
  have z1 : cv.length ≤ 100 := len6 lC' ln4 (Nat.le_of_lt hi6')
  have z2 : sv.length ≤ 100 := len6 lS4 ln4 (Nat.le_of_lt hi6')
  have z3 : kv.length ≤ 100 := len6 lK4 ln4 (Nat.le_of_lt hi6')
  have key : ∀ h' m' tk (kt : Tok) n1', Fr h₀ L h' (over [(Str.ofString "urn", .ref U), (Str.ofString "book", .ref bk), (Str.ofString "store", .ref st), (Str.ofString "steps", .ref SL)] m') → News h₀ L h' ((PL, listOf pv.toArray nP) :: (I, oI) :: (U, listOf [.int x0 t0, .ref D, .int xi t1].toArray nU) :: (H, listOf hs.toArray nH) :: (S, listOf ss.toArray nS) :: (TX, listOf ts.toArray n1) :: (AN, oA) :: (FL, listOf fs.toArray n2) :: (FN, oF) :: (CL, listOf (cv ++ [mv]).toArray (nC + 1)) :: (SL, listOf (sv ++ [Value.ref PL]).toArray (nSL + 1)) :: (KL, listOf (kv ++ [Value.str (kindS (kindOf3 wy)) kt]).toArray n1') :: (D, listOf ws.toArray 0) :: (st, instObj 381 dst) :: (dst, dictOf (stE w.params bk H S Tr kk2 uu) 7) :: (bk, instObj 154 dbk) :: (dbk, dictOf (bkE w.params TX AN FL FN kk) 4) :: (L + 1, o1c) :: (L + 1 + 1, o2c) :: (pt ++ nt)) →
      TurnJ h₀ L [(I, oI)] I (JL prog w ws.length U H S TX AN FL FN CL SL KL D st dst bk dbk [(D, listOf ws.toArray 0), (st, instObj 381 dst), (dst, dictOf (stE w.params bk H S Tr kk2 uu) 7), (bk, instObj 154 dbk), (dbk, dictOf (bkE w.params TX AN FL FN kk) 4), (L + 1, o1c), (L + 1 + 1, o2c)] (i + 1)) s₁ Q .next { s₁ with heap := h', toks := tk } := by
    intro h' m' tk kt n1' F N
    refine TurnJ.next F (news' := (U, listOf [.int x0 t0, .ref D, .int xi t1].toArray nU) :: (H, listOf hs.toArray nH) :: (S, listOf ss.toArray nS) :: (TX, listOf ts.toArray n1) :: (AN, oA) :: (FL, listOf fs.toArray n2) :: (FN, oF) :: (CL, listOf (cv ++ [mv]).toArray (nC + 1)) :: (SL, listOf (sv ++ [Value.ref PL]).toArray (nSL + 1)) :: (KL, listOf (kv ++ [Value.str (kindS (kindOf3 wy)) kt]).toArray n1') :: ([(D, listOf ws.toArray 0), (st, instObj 381 dst), (dst, dictOf (stE w.params bk H S Tr kk2 uu) 7), (bk, instObj 154 dbk), (dbk, dictOf (bkE w.params TX AN FL FN kk) 4), (L + 1, o1c), (L + 1 + 1, o2c)] ++ (((PL, listOf pv.toArray nP) :: pt) ++ nt))) (News.sub N (by k_extra "SUB")) (by k_extra "SEPI") ?_
    refine ⟨x0, xi, t0, t1, nU, hs, nH, ss, nS, ts, n1, oA, fs, n2, oF, cv ++ [mv], nC + 1, sv ++ [.ref PL], nSL + 1, kv ++ [.str (kindS (kindOf3 wy)) kt], n1', nt, (PL, listOf pv.toArray nP) :: pt, Tx, Fx, Ha, Sa, ns ++ [⟨c, ps, kindOf3 wy⟩], .cons rfl (.cons rfl (.cons rfl (.cons rfl .nil))), rfl, ?_⟩
    refine ⟨LS.hx0, LS.hxi, LS.hxl, LS.cH, LS.cS, ?_, ?_, ?_, LS.aP, LS.fP, LS.bk, LS.wf, by simp [LS.ln], LS.lH, LS.lS, LS.tn, sep_cons hPL LS.tp, ?_⟩
    · rw [List.map_append]
      exact LS.cC.app (.cons LS.mdp .nil)
    · rw [List.map_append]
      exact (LS.sP.mono sub_cons_refl).app (.cons (.head _) iP .nil)
    · rw [List.map_append]
      exact LS.kP.app (.cons .nil)
    · intro _
      by_cases hi0 : i = 0
      · have : ns = [] := List.length_eq_zero_iff.mp (by rw [LS.ln, hi0])
        subst this
        refine ⟨_, rfl, ?_⟩
        have h5 : ¬ wy < 5 := fun h => by have := w5 h; omega
        exact (if_neg (by k_extra "OM")).trans (if_neg h5)
      · obtain ⟨x, e, k⟩ := LS.fr (by k_extra "OM")
        exact ⟨x, by rw [List.getElem?_append_left (List.getElem?_eq_some_iff.mp e).1, e], k⟩
  have wc : wy < 3 ∨ (¬ wy < 3 ∧ wy < 5) ∨ (¬ wy < 3 ∧ ¬ wy < 5) := by omega
  obtain hw | ⟨hw, hw2⟩ | ⟨hw, hw2⟩ := wc
  · rw [show kindOf3 wy = 0 from if_pos hw] at key
    k_extra "STEPS"
    exact key _ _ _ _ _ (Mine.Fr.form (by assumption) (.cons rfl (.cons rfl (.cons rfl (.cons rfl .nil))))) (by assumption)
  · rw [show kindOf3 wy = 1 from (if_neg hw).trans (if_pos hw2)] at key
    k_extra "STEPS"
    exact key _ _ _ _ _ (Mine.Fr.form (by assumption) (.cons rfl (.cons rfl (.cons rfl (.cons rfl .nil))))) (by assumption)
  · rw [show kindOf3 wy = 2 from (if_neg hw).trans (if_neg hw2)] at key
    k_extra "STEPS"
    exact key _ _ _ _ _ (Mine.Fr.form (by assumption) (.cons rfl (.cons rfl (.cons rfl (.cons rfl .nil))))) (by assumption)
end
end Part25
section Part26
theorem ln28 : True := by
  k_with_none
  (k_with "LIT0" => (first | with_reducible assumption | ((first | (with_reducible show @LE.le Nat _ (OfNat.ofNat _) (OfNat.ofNat _)) | (with_reducible show @LT.lt Nat _ (OfNat.ofNat _) (OfNat.ofNat _))); exact Nat.le_of_ble_eq_true rfl)))
  (k_with "LIT1" => (first | with_reducible assumption | (with_reducible refine' Nat.lt_of_lt_of_le ?ha ?hb; (case ha => with_reducible assumption); (case hb => k_extra "LIT0")) | (with_reducible refine' Nat.lt_of_le_of_lt ?ha ?hb; (case ha => with_reducible assumption); (case hb => k_extra "LIT0")) | (with_reducible refine' Nat.le_trans ?ha ?hb; (case ha => with_reducible assumption); (case hb => k_extra "LIT0")) | (with_reducible refine' Nat.le_of_lt (Nat.lt_of_lt_of_le ?ha ?hb); (case ha => with_reducible assumption); (case hb => k_extra "LIT0")) | (with_reducible refine' Nat.lt_of_le_of_lt (Nat.le_of_eq ?ha) ?hb; (case ha => with_reducible assumption); (case hb => k_extra "LIT0")) | (with_reducible refine' Nat.le_trans (Nat.le_of_eq ?ha) ?hb; (case ha => with_reducible assumption); (case hb => k_extra "LIT0"))))
  (k_with "LIT2" => (first | with_reducible assumption | (with_reducible refine' Nat.lt_of_lt_of_le ?ha ?hb; (case ha => with_reducible assumption); (case hb => k_extra "LIT1")) | (with_reducible refine' Nat.lt_of_le_of_lt ?ha ?hb; (case ha => with_reducible assumption); (case hb => k_extra "LIT1")) | (with_reducible refine' Nat.le_trans ?ha ?hb; (case ha => with_reducible assumption); (case hb => k_extra "LIT1")) | (with_reducible refine' Nat.le_of_lt (Nat.lt_of_lt_of_le ?ha ?hb); (case ha => with_reducible assumption); (case hb => k_extra "LIT1")) | (with_reducible refine' Nat.lt_of_le_of_lt (Nat.le_of_eq ?ha) ?hb; (case ha => with_reducible assumption); (case hb => k_extra "LIT1")) | (with_reducible refine' Nat.le_trans (Nat.le_of_eq ?ha) ?hb; (case ha => with_reducible assumption); (case hb => k_extra "LIT1"))))
  (k_with "OM" => (first | with_reducible assumption | with_reducible exact Int.natCast_nonneg _ | with_reducible exact Int.ofNat_lt.mpr (by with_reducible assumption) | with_reducible exact i63 (by k_extra "LIT2") | k_extra "LIT2" | omega))
  (k_with "LTC" => (first | with_reducible assumption | (refine' Nat.lt_trans ?ha ?hb; (case ha => with_reducible assumption); (case hb => k_extra "LTC"))))
  (k_with "NEC" => ((refine neN ?_; (try dsimp only); first | (refine' Nat.ne_of_lt ?hc; (case hc => k_extra "LTC")) | (refine' Nat.ne_of_gt ?hc; (case hc => k_extra "LTC")) | omega)))
  (k_with "ROOMN" => (first | (refine' roomN ?ha (Nat.add_assoc _ _ _) ?hb; (case ha => with_reducible assumption); (case hb => exact rfl)) | (refine' roomN ?ha rfl ?hb; (case ha => with_reducible assumption); (case hb => exact rfl)) | (refine' roomN ?ha ((Nat.add_assoc _ _ _).trans (Nat.add_assoc _ _ _)) ?hb; (case ha => with_reducible assumption); (case hb => exact rfl)) | exact Nat.lt_of_le_of_lt (Nat.le_add_right _ _) (by with_reducible assumption)))
  (k_with "MKUNITS" => (first | k_extra "ROOMN" | ktr_units))
  (k_with "MKNE" => (first | k_extra "NEC" | ((try dsimp only); assumption) | ((try dsimp only); exact Ne.symm (by assumption)) | ((try dsimp only); exact News.ne (by with_reducible assumption) (by k_mem) (by k_mem) (ne_typ rfl))))
  (k_with "MKALL" => (first | assumption | exact List.forall_mem_nil _ | (refine' List.forall_mem_cons.mpr ⟨?a, ?b⟩; (case a => k_ne); (case b => k_all))))
  (k_with "GET" => (first | exact Fr.keep (by with_reducible assumption) _ _ (by with_reducible assumption) | exact News.get (by with_reducible assumption) (by k_mem)))
  (k_with "MKINST" => (exact instG (by k_extra "GET") (by k_extra "GET")))
  (k_with "MISLIST" => (exact isListG (by k_extra "GET")))
  (k_with "ENTER" => (((case ks => assumption); (case k1 => assumption); (case k2 => assumption); (case k3 => assumption); (case k4 => assumption); (case kr => assumption); (case k5 => assumption); (case kK => assumption); (case k8 => first | k_extra "ROOMN" | ktr_room); (case k6 => k_is); (case k7 => k_is); (case k9 => exact BindsTo.of_eq rfl); (case kB => exact locs rfl); (case c2 => exact rfl); (case c3 => exact rfl); (case c4 => exact rfl); (case c5 => decide))))
  (k_with "subscriptTail" => ((k_here; (with_reducible show wpAny _ _ (subscriptTail _ _ (Value.ref _) (Value.int _ _)) _ _ _); k_dflt (refine' item_list ?k1 ?k2 ?k3 ?k4 ?_; (case k1 => is_list); (case k4 => assumption); (case k2 => k_extra "OM"); (case k3 => k_extra "OM")))))
  (k_with "subscriptTail" => ((k_here; (with_reducible show wpAny _ _ (subscriptTail _ _ (Value.ref _) (Value.int 1 _)) _ _ _); k_dflt (refine' item_tup1 ?k1 ?_; (case k1 => k_extra "GET")))))
  (k_with "subscriptTail" => ((k_here; (with_reducible show wpAny _ _ (subscriptTail _ _ (Value.ref _) (Value.int 0 _)) _ _ _); k_dflt (refine' item_tup0 ?k1 ?_; (case k1 => k_extra "GET")))))
  (k_with "compareOp Eq ref ref" => ((k_here; (with_reducible show wpAny _ _ (compareOp CmpOp.Eq (Value.ref _) (Value.ref _)) _ _ _); k_dflt (refine' eq_tup ?k1 ?k2 ?k3 ?_; (case k1 => k_extra "GET"); (case k2 => k_extra "GET"); (case k3 => k_units)))))
  (k_with "ite" => (first | (refine ite_pos ?c ?_; (case c => ((try simp only [decide_eq_true_eq, beq_iff_eq, Bool.not_eq_true', decide_eq_false_iff_not, ne_eq]); first | assumption | omega))) | (refine ite_neg ?c ?_; (case c => ((try simp only [decide_eq_true_eq, beq_iff_eq, Bool.not_eq_true', decide_eq_false_iff_not, ne_eq]); first | assumption | omega)))))
  (k_with "execs cons" => (((with_reducible refine wpAny_execs_cons ?_); (try dsimp only); k_fold)))
  (k_with "STEPS" => (((try k_fold); (repeat' (first | walk1 | (k_unfold; (try dsimp only)) | (dsimp only; walk1))); (all_goals (try dsimp only)))))
  (k_with "LV" => (((try dsimp only [WhileStep2]); refine' LeaveM.mk ?k1 ?k2 ?_; (case k1 => with_reducible assumption); (case k2 => with_reducible assumption); intro _ nK; (try dsimp only [List.nil_append, List.cons_append] at nK); revert nK; intro _; (try dsimp only))))
  (k_with "ROOM" => (first | k_extra "ROOMN" | (simp only [recursionLimit, cLine] at *; omega)))
  (k_with "CTX" => (((case B => with_reducible assumption); (case F => with_reducible assumption); (case X => with_reducible assumption); (case T => with_reducible assumption); (case hk => first | exact rfl | assumption); (case hd => k_extra "ROOM"); (case hu => k_extra "ROOM"); (case N => with_reducible assumption))))
  (k_with "KEEP" => (first | with_reducible assumption | exact DerV.keep (by with_reducible assumption) (Fr.keep (by with_reducible assumption)) | exact Sto.keep (by with_reducible assumption) (Fr.keep (by with_reducible assumption)) | exact Bok.keep (by with_reducible assumption) (Fr.keep (by with_reducible assumption)) | exact TupG.keep (by with_reducible assumption) (Fr.keep (by with_reducible assumption)) | exact ⟨_, by k_extra "GET"⟩ | exact ⟨_, _, _, _, rfl, by k_extra "GET"⟩ | assumption))
  (k_with "AFTER" => (((try dsimp only); (try k_sweep))))
  (k_with "call builtin:len" => ((k_here; (with_reducible show wpAny _ _ (call (Value.builtin "len") [Value.ref _]) _ _ _); k_dflt (refine' len_any ?k1 ?k2 ?_; (case k1 => is_list); (case k2 => first | with_reducible assumption | ((try simp only [List.length_append, List.length_cons, List.length_nil, List.length_set]); omega))))))
  (k_with "call builtin:list.append" => ((k_here; (with_reducible show wpAny _ _ (call (Value.builtin _) [Value.ref _, _]) _ _ _); k_dflt (refine' append_any ?k1 ?k2 ?k3 ?_ ?z; (case k1 => k_asm); (case k2 => k_asm); (case k3 => k_upd); (case z => first | with_reducible assumption | ((try simp only [List.length_append, List.length_cons, List.length_nil, List.length_set]); omega)); k_whole); intro _ _ _; (try k_sweep))))
  (k_with "setItem ref int" => ((k_here; (with_reducible show wpAny _ _ (setItem (Value.ref _) (Value.int _ _) _) _ _ _); k_dflt (refine' set_any ?k1 ?k2 ?k3 ?k4 ?k5 ?k6 ?_; (case k1 => k_asm); (case k2 => k_asm); (case k3 => k_upd); (case k4 => k_extra "OM"); (case k5 => first | with_reducible assumption | ((try simp only [List.length_append, List.length_cons, List.length_nil, List.length_set]); omega)); (case k6 => k_extra "OM"); k_whole); intro _ _ _; (try k_sweep))))
  (k_with "CTX2" => (((case B => with_reducible assumption); (case F => with_reducible assumption); (case X => with_reducible assumption); (case T => with_reducible assumption); (case hk => first | exact rfl | assumption); (case hd => k_extra "ROOM"); (case hu => k_extra "ROOM"))))
  (k_with "SEP" => (((repeat' (first | assumption | exact sep_nil | refine sep_app ?_ ?_ | refine sep_cons ?_ ?_)); (all_goals ((repeat' (first | exact nmNil | refine nmCons ?_ ?_)); all_goals first | assumption | k_extra "NEC" | exact Ne.symm (by assumption) | exact News.ne (by with_reducible assumption) (by k_mem) (by k_mem) (ne_typ rfl))))))
  (k_with "SPLIT1" => (first | (refine' News.at0 ?n; (case n => with_reducible assumption)) | (refine' News.at1 ?n; (case n => with_reducible assumption)) | (refine' News.at2 ?n; (case n => with_reducible assumption)) | (refine' News.at3 ?n; (case n => with_reducible assumption)) | (refine' News.at4 ?n; (case n => with_reducible assumption)) | (refine' News.at5 ?n; (case n => with_reducible assumption)) | (refine' News.at6 ?n; (case n => with_reducible assumption))))
  (k_with "pyIter ref" => (refine stopHere ?_))
  (k_with "SEPI" => (((repeat' (first | assumption | exact sep_nil | refine sep_app ?_ ?_ | refine sep_cons ?_ ?_)); (all_goals ((try dsimp only); first | assumption | k_extra "NEC" | exact Ne.symm (by assumption))))))
  (k_with "SUBT" => (first | exact sub_refl | (refine sub_cons ?_; k_extra "SUBT") | (refine sub_right ?_; k_extra "SUBT") | (refine sub_left ?_; k_extra "SUBT")))
  (k_with "MEM" => (first | exact memH | (with_reducible refine List.mem_append_right _ ?_; k_extra "MEM") | (with_reducible refine List.mem_append_left _ ?_; k_extra "MEM") | (with_reducible refine memT ?_; k_extra "MEM")))
  (k_with "SUBT2" => (first | exact sub_refl | (with_reducible refine sub_right ?_; k_extra "SUBT2") | (with_reducible refine sub_left ?_; k_extra "SUBT2") | (with_reducible refine sub_cons ?_; k_extra "SUBT2")))
  (k_with "SUBM" => (((repeat' (first | exact sep_nil | refine sep_app ?_ ?_ | refine sep_cons ?_ ?_)); (all_goals first | k_extra "MEM" | k_extra "SUBT2"))))
  (k_with "SUB" => (((repeat' (first | exact sep_nil | refine sep_app ?_ ?_ | refine sep_cons ?_ ?_)); (all_goals first | k_mem | k_extra "MEM" | k_extra "SUBT2" | (simp only [List.mem_append, List.mem_cons, List.not_mem_nil, true_or, or_true, or_false, false_or]; done) | (intro _ hx9; simp only [hx9, List.mem_append, List.mem_cons, List.not_mem_nil, true_or, or_true, or_false, false_or]; done) | k_extra "SUBT"))))
  (k_with "exec For Name Name cons nil" => ((k_here; (with_unfolding_all refine' For_invVF ?kF ?k1 ?k2 ?_; (case kF => assumption); (case k1 => exact rfl); (case k2 => exact rfl); k_whole))))
  (k_with "exec For Name Call cons nil" => ((k_here; (with_unfolding_all refine' For_invVF ?kF ?k1 ?k2 ?_; (case kF => assumption); (case k1 => exact rfl); (case k2 => exact rfl); k_whole))))
  (k_with "exec For Name Subscript cons nil" => ((k_here; (with_unfolding_all refine' For_invVF ?kF ?k1 ?k2 ?_; (case kF => assumption); (case k1 => exact rfl); (case k2 => exact rfl); k_whole))))
  (k_with "exec For Name Attribute cons nil" => ((k_here; (with_unfolding_all refine' For_invVF ?kF ?k1 ?k2 ?_; (case kF => assumption); (case k1 => exact rfl); (case k2 => exact rfl); k_whole))))
  (k_with "KEEP" => (first | with_reducible assumption | exact DerV.keep (by with_reducible assumption) (Fr.keep (by with_reducible assumption)) | exact Sto.keep (by with_reducible assumption) (Fr.keep (by with_reducible assumption)) | exact Bok.keep (by with_reducible assumption) (Fr.keep (by with_reducible assumption)) | exact TupG.keep (by with_reducible assumption) (Fr.keep (by with_reducible assumption)) | exact ⟨_, by k_extra "GET"⟩ | exact ⟨_, _, _, _, rfl, by k_extra "GET"⟩ | assumption))
  trivial
theorem News.swapIn4 {h₀ h : Heap} {L : Addr} {P X F R pt nt : List (Addr × Obj)} (N : News h₀ L h (P ++ ((X ++ F) ++ (R ++ (pt ++ nt))))) : News h₀ L h (P ++ (F ++ (R ++ (pt ++ (X ++ nt))))) := fun p hp => N p (by
  simp only [List.mem_append] at hp ⊢
  rcases hp with h | h | h | h | h | h <;> simp [h])
theorem row_cells {Tp : Value → Int × Int → Prop} {ns : List Nd} : ∀ {ps : List Nat} {ys : List Value}, ys.length = ps.length → (∀ (i : Nat) (y : Value), ys[i]? = some y → ∃ (p : Nat) (x : Nd), ps[i]? = some p ∧ ns[p]? = some x ∧ Tp y x.c) → CellsP Tp ys (rowOf ns ps)
  | [], ys, hl, _ => by
    cases List.length_eq_zero_iff.mp hl
    exact .nil
  | p :: ps, [], hl, _ => by cases hl
  | p :: ps, y :: ys, hl, h => by
    obtain ⟨p', x, e1, e2, t⟩ := h 0 y rfl
    cases e1
    have e3 : rowOf ns (p :: ps) = x.c :: rowOf ns ps := by
      unfold rowOf
      rw [List.map_cons, e2]
      rfl
    rw [e3]
    exact .cons t (row_cells (by simpa using hl) fun i z hz => by
      obtain ⟨q, x', a, b, c⟩ := h (i + 1) z (by simpa using hz)
      exact ⟨q, x', by simpa using a, b, c⟩)
section
variable {prog : Program} {w : World} {p : Program} {loose : List Str} {mean : ExcName → Option Value} {mg mb : Str → Option Value} {dp un : Nat} {gd : Option (List Code)} {a : Addr} {ccd : Value} {outer : List Env} {A₀ : Around} {base h₀ : Heap} {L : Addr} {m : Str → Option Value} {s₁ : Shared} {h₁ : Heap} {tk₁ : Nat} {Q : Flow → Shared → Prop}
  (B : Below A₀ base outer h₀) (X : (Mine.hd.heap_1 w.params).In h₀) (T : Top p loose mean mg mb h₀) (hd : dp + 60 < recursionLimit) (hu : un + 1200 < cLine)
include B X T hd hu
theorem ln29 : True := by
  (k_with "call ref" => ((k_here; (with_reducible show wpAny _ _ (call (Value.ref 154) _) _ _ _); refine stopHere ?_)))
  (k_with "call ref" => ((k_here; (with_reducible show wpAny _ _ (call (Value.ref 381) _) _ _ _); refine stopHere ?_)))
  (k_with "call ref" => ((k_here; (with_reducible show wpAny _ _ (call (Value.ref 411) _) _ _ _); refine stopHere ?_)))
  (k_with "call ref" => ((k_here; (with_reducible show wpAny _ _ (call (Value.ref 418) _) _ _ _); refine stopHere ?_)))
  (k_with "call ref" => ((k_here; (with_reducible show wpAny _ _ (call (Value.ref 109) _) _ _ _); refine stopHere ?_)))
  (k_with "call ref" => ((k_here; (with_reducible show wpAny _ _ (call (Value.ref 342) _) _ _ _); refine stopHere ?_)))
  (k_with "call ref" => ((k_here; (with_reducible show wpAny _ _ (call (Value.ref 209) _) _ _ _); refine stopHere ?_)))
  (k_with "call ref" => ((k_here; (with_reducible show wpAny _ _ (call (Value.ref 244) _) _ _ _); refine stopHere ?_)))
  (k_with "call ref" => ((k_here; (with_reducible show wpAny _ _ (call (Value.ref 279) _) _ _ _); refine stopHere ?_)))
  (k_with "call ref" => ((k_here; (with_reducible show wpAny _ _ (call (Value.ref 230) _) _ _ _); refine stopHere ?_)))
  (k_with "call ref" => ((k_here; (with_reducible show wpAny _ _ (call (Value.ref 397) _) _ _ _); refine stopHere ?_)))
  (k_with "call ref" => ((k_here; (with_reducible show wpAny _ _ (call (Value.ref 404) _) _ _ _); refine stopHere ?_)))
  (k_with "SEPL" => (((repeat' (first | assumption | exact sep_nil | refine sep_app ?_ ?_ | refine sep_cons ?_ ?_)); (all_goals first | exact sepOne (by assumption) | exact sepTwo (by assumption) (by assumption) | exact sepFour (by assumption) (by assumption) (by assumption) (by assumption) | ((repeat' (first | exact nmNil | refine nmCons ?_ ?_)); all_goals first | assumption | k_extra "NEC" | exact Ne.symm (by assumption) | exact News.ne (by with_reducible assumption) (by k_mem) (by k_mem) (ne_typ rfl))))))
  (k_with "execs cons" => (((with_reducible show wpAny _ _ (execs (Stmt.Expr _ _ :: Stmt.Expr _ _ :: _) _) _ _ _); refine stopHere ?_)))
  (k_with "subscriptTail" => ((k_here; (with_reducible show wpAny _ _ (subscriptTail _ _ (Value.ref _) (Value.int (List.getD _ _ _) _)) _ _ _); rw [getD_one]; k_dflt (refine' item_list ?k1 ?k2 ?k3 ?k4 ?_; (case k1 => is_list); (case k4 => first | assumption | exact rfl); (case k2 => k_extra "OM"); (case k3 => k_extra "OM")))))
  (k_with "subscriptTail" => ((k_here; (with_reducible show wpAny _ _ (subscriptTail _ _ (Value.ref _) (Value.int _ _)) _ _ _); k_dflt (refine' item_list ?k1 ?k2 ?k3 ?k4 ?_; (case k1 => is_list); (case k4 => first | assumption | exact rfl); (case k2 => k_extra "OM"); (case k3 => k_extra "OM")))))
  (k_with "subscriptTail" => ((k_here; (with_reducible show wpAny _ _ (subscriptTail _ _ (Value.ref _) (Value.int _ _)) _ _ _); k_dflt (refine' item_list ?k1 ?k2 ?k3 ?k4 ?_; (case k1 => is_list); (case k4 => exact selAt (by assumption) (by assumption)); (case k2 => k_extra "OM"); (case k3 => k_extra "OM")))))
  trivial
theorem law_t3A {U H S TX AN FL FN CL SL KL D st dst bk dbk Tr I PL : Addr} {ws pv : List Value} {wi : List Int} {kk2 uu kk : Nat → Tok} {o1c o2c oI : Obj} {i nP : Nat} {wy : Int} {tw : Tok} {ps : List Nat}
    (hws : ws.length ≤ 50) (hI : IntsAre ws wi) (hi6 : Hid (i < 6)) (hsys : @LT.lt Nat _ sysModules L) (q1 : D < U) (q2 : U < dbk) (q3 : dbk < bk) (q4 : bk < TX) (q5 : TX < AN) (q6 : AN < FL) (q7 : FL < FN) (q8 : FN < dst) (q9 : dst < st) (q10 : st < H) (q11 : H < S) (q12 : S < CL) (q13 : CL < SL) (q14 : SL < KL) (q15 : L + 1 < D) (q16 : L + 1 + 1 < D)
    (hc1 : o1c.data = .cell (some (.ref CL))) (hc2 : o2c.data = .cell (some (.ref KL))) (cI : oI.cls = .type "range_iterator") {news : List (Addr × Obj)}
    (hJ : JL prog w ws.length U H S TX AN FL FN CL SL KL D st dst bk dbk [(D, listOf ws.toArray 0), (st, instObj 381 dst), (dst, dictOf (stE w.params bk H S Tr kk2 uu) 7), (bk, instObj 154 dbk), (dbk, dictOf (bkE w.params TX AN FL FN kk) 4), (L + 1, o1c), (L + 1 + 1, o2c)] i m news) (hne : ∀ p ∈ news, ¬ p.1 = I) (hw3 : wy < 3) (w0 : 0 ≤ wy) (w7 : Hid (wy < 7)) (w5 : wy < 5 → 0 < i) (hPL : KL < PL) (hPI : ¬ PL = I) (iP : IntsN pv ps) (lP : ps.length = if wy < 5 then cntN wy else 0) (pI : ∀ p ∈ ps, p < i)
    (F₁ : Fr h₀ L h₁ (over [(Str.ofString "parts", .ref PL), (Str.ofString "way", .int wy tw)] m)) (N₁ : News h₀ L h₁ ((PL, listOf pv.toArray nP) :: (I, oI) :: news)) :
    wpAny (model prog w) (ktrTop dp un gd (Str.ofString "law") lawScope L a ccd (cellsFrom (L + 1) lawScope.names []) outer) (execs (forRest 6 3) (envX (Str.ofString "law") lawScope L a ccd (cellsFrom (L + 1) lawScope.names [])))
      (TurnJ h₀ L [(I, oI)] I (JL prog w ws.length U H S TX AN FL FN CL SL KL D st dst bk dbk [(D, listOf ws.toArray 0), (st, instObj 381 dst), (dst, dictOf (stE w.params bk H S Tr kk2 uu) 7), (bk, instObj 154 dbk), (dbk, dictOf (bkE w.params TX AN FL FN kk) 4), (L + 1, o1c), (L + 1 + 1, o2c)] (i + 1)) s₁ Q) (fun _ _ => False) { s₁ with heap := h₁, toks := tk₁ } := by
  generalize hg1 : forRest 6 3 = bd
  generalize hg2 : lawScope = sc
  conv at hg1 => lhs; whnf
  conv at hg2 => lhs; whnf
  subst hg1
  subst hg2
  refine Classical.byContradiction fun nGo => ?_
  obtain ⟨x0, xi, t0, t1, nU, hs, nH, ss, nS, ts, n1, oA, fs, n2, oF, cv, nC, sv, nSL, kv, nK, nt, pt, Tx, Fx, Ha, Sa, ns, ag, rfl, LS⟩ := hJ
  rw [ag.form] at F₁
  dsimp only [List.cons_append, List.nil_append] at N₁
  have q1' := ltN q1
  have q2' := ltN q2
  have q3' := ltN q3
  have q4' := ltN q4
  have q5' := ltN q5
  have q6' := ltN q6
  have q7' := ltN q7
  have q8' := ltN q8
  have q9' := ltN q9
  have q10' := ltN q10
  have q11' := ltN q11
  have q12' := ltN q12
  have q13' := ltN q13
  have q14' := ltN q14
  have q15' := ltN q15
  have q16' := ltN q16
  have hne0 := hne
  obtain ⟨i1, i2, i3, i4, i5, i6, i7, i8, i9, i10, i11, i12, i13, i14, i15, i16, i17, ipt, int_⟩ := neSplit hne
  refine nGo ?_; clear nGo
  have hi6' : i < 6 := hi6
  have hLD : @LT.lt Nat _ L D := Nat.lt_of_succ_lt q15'
  have lH := LS.lH
  have lS := LS.lS
  have lH' := LS.cH.length
  have lS' := LS.cS.length
  have pU : ∀ q ∈ pt, q.1 ≠ U := abN (X := U) LS.tp (show @LT.lt Nat _ U KL by first | k_extra "LTC" | omega)
  have pH : ∀ q ∈ pt, q.1 ≠ H := abN (X := H) LS.tp (show @LT.lt Nat _ H KL by first | k_extra "LTC" | omega)
  have pS : ∀ q ∈ pt, q.1 ≠ S := abN (X := S) LS.tp (show @LT.lt Nat _ S KL by first | k_extra "LTC" | omega)
  have fH : ∀ q ∈ nt, q.1 ≠ H := News.neAll N₁ (by k_extra "SUBT") LS.tn (by k_mem) list_ne_tuple
  have fS : ∀ q ∈ nt, q.1 ≠ S := News.neAll N₁ (by k_extra "SUBT") LS.tn (by k_mem) list_ne_tuple
  have hPL' := ltN hPL
  have lC' := LS.cC.length
  have ln4 := LS.ln
  rw [List.length_map] at lC'
  have b1 : cv.length ≤ 100 := len6 lC' ln4 (Nat.le_of_lt hi6')
  have b5 : hs.length ≤ 100 := len36 lH' lH (Nat.le_of_lt hi6')
  have b6 : ss.length ≤ 100 := len1 lS' lS (Nat.le_of_lt hi6')
  have b7 : Ha.length ≤ 100 := len36 rfl lH (Nat.le_of_lt hi6')
  have b8 : Sa.length ≤ 100 := len1 rfl lS (Nat.le_of_lt hi6')
  have hTp : ∀ v c, TupL nt v c → TupG h₁ v c := fun v c t => t.at (News.sub N₁ (by k_extra "SUBT"))
  have hw5 : wy < 5 := by omega
  rw [if_pos hw5] at lP
  have hi6'' : i < 6 := hi6
  have loA : (AN == sysModules) = false := beq_eq_false_iff_ne.mpr (Nat.ne_of_gt (show @LT.lt Nat _ sysModules AN by first | k_extra "LTC" | omega))
  have loF : (FN == sysModules) = false := beq_eq_false_iff_ne.mpr (Nat.ne_of_gt (show @LT.lt Nat _ sysModules FN by first | k_extra "LTC" | omega))
  have pT : ∀ q ∈ pt, q.1 ≠ TX := abN (X := TX) LS.tp (show @LT.lt Nat _ TX KL by first | k_extra "LTC" | omega)
  have pA : ∀ q ∈ pt, q.1 ≠ AN := abN (X := AN) LS.tp (show @LT.lt Nat _ AN KL by first | k_extra "LTC" | omega)
  have pF : ∀ q ∈ pt, q.1 ≠ FL := abN (X := FL) LS.tp (show @LT.lt Nat _ FL KL by first | k_extra "LTC" | omega)
  have pN : ∀ q ∈ pt, q.1 ≠ FN := abN (X := FN) LS.tp (show @LT.lt Nat _ FN KL by first | k_extra "LTC" | omega)
  have lpv := iP.length
  have cn2 := (cntN_le wy).1
  have bkl := LS.bk.lt
  have bkf := LS.bk.lf
  k_extra "STEPS"
  rename News _ _ _ _ => N6
  have fT : ∀ q ∈ nt, q.1 ≠ TX := News.neAll N6 (by k_extra "SUBT") LS.tn (by k_mem) list_ne_tuple
  have fA : ∀ q ∈ nt, q.1 ≠ AN := News.neAll N6 (by k_extra "SUBT") LS.tn (by k_mem) (by rw [LS.aP.cls]; exact ne_typ rfl)
  have fF : ∀ q ∈ nt, q.1 ≠ FL := News.neAll N6 (by k_extra "SUBT") LS.tn (by k_mem) list_ne_tuple
  have fN : ∀ q ∈ nt, q.1 ≠ FN := News.neAll N6 (by k_extra "SUBT") LS.tn (by k_mem) (by rw [LS.fP.cls]; exact ne_typ rfl)
  show wpAny _ _ _ _ _ _
  k_dflt (refine' func_spec (pre := [_, _, _, _, _]) (Tx := Tx) (Fx := Fx) (ts := ts) (fs := fs) (oA := oA) (oF := oF) (Tp := TupL nt) (kk := kk) (dbk := dbk) ?B ?F ?X ?T ?hk ?hd ?hu ?N ?sep ?q1 ?q2 ?q3 ?q4 ?q5 ?q6 ?hA ?hF ?lo ?lo2 ?hTp ?hbk ?hdbk ?nb1 ?nb2 ?nb3 ?nb4 ?nd1 ?nd2 ?nd3 ?nd4 ?hl ?hl2 ?_; k_extra "CTX2"; (case N => exact N6); (case sep => k_extra "SEPL"); (case q1 => k_extra "NEC"); (case q2 => k_extra "NEC"); (case q3 => k_extra "NEC"); (case q4 => k_extra "NEC"); (case q5 => k_extra "NEC"); (case q6 => k_extra "NEC"); (case hA => exact LS.aP); (case hF => exact LS.fP); (case lo => exact loA); (case lo2 => exact loF); (case hTp => exact fun v c x => TupL.at x (News.sub N6 (by k_extra "SUBT"))); (case hbk => k_extra "GET"); (case hdbk => k_extra "GET"); (case nb1 => k_extra "NEC"); (case nb2 => k_extra "NEC"); (case nb3 => k_extra "NEC"); (case nb4 => k_extra "NEC"); (case nd1 => k_extra "NEC"); (case nd2 => k_extra "NEC"); (case nd3 => k_extra "NEC"); (case nd4 => k_extra "NEC"); (case hl => k_extra "OM"); (case hl2 => k_extra "OM"))
  intro h' tk' tf1 nt1 ts1 fs1 n11 n21 oA1 oF1 c1 hc1' hA1 hF1 hnt1 F' N'
  generalize hT1 : putL Tx (Str.ofString "h") = Tx1 at *
  have hF1' := hF1.mono (Tq := TupL (nt1 ++ nt)) fun v c t => TupL.ofQ t
  generalize hF1e : putL Fx c1 = Fx1 at *
  have lt1 : Tx1.length ≤ Tx.length + 1 := by rw [← hT1]; exact putL_len1 _ _
  have lf1 : Fx1.length ≤ Fx.length + 1 := by rw [← hF1e]; exact putL_len1 _ _
  have tn1 := sep_app hnt1 LS.tn
  have sb1 : ∀ x ∈ nt, x ∈ nt1 ++ nt := fun x hx => List.mem_append_right _ hx
  have nI1 : ∀ q ∈ nt1 ++ nt, ¬ q.1 = I := sep_app (News.neAll N' (by k_extra "SUBT2") hnt1 (by k_mem) (by rw [cI]; exact ne_typ rfl)) int_
  have N7 : News h₀ L h' ((PL, listOf pv.toArray nP) :: (I, oI) :: (U, listOf [.int x0 t0, .ref D, .int xi t1].toArray nU) :: (H, listOf (hs).toArray nH) :: (S, listOf (ss).toArray nS) :: (TX, listOf (ts1).toArray n11) :: (AN, oA1) :: (FL, listOf (fs1).toArray n21) :: (FN, oF1) :: (CL, listOf cv.toArray nC) :: (SL, listOf sv.toArray nSL) :: (KL, listOf kv.toArray nK) :: (D, listOf ws.toArray 0) :: (st, instObj 381 dst) :: (dst, dictOf (stE w.params bk H S Tr kk2 uu) 7) :: (bk, instObj 154 dbk) :: (dbk, dictOf (bkE w.params TX AN FL FN kk) 4) :: (L + 1, o1c) :: (L + 1 + 1, o2c) :: (pt ++ (nt1 ++ nt))) := News.swapIn4 (P := [_, _, _, _, _]) (X := nt1) (F := [_, _, _, _]) (R := [_, _, _, _, _, _, _, _, _, _]) (pt := pt) N'
  clear N' hF1 hnt1 N6
  generalize nt1 ++ nt = ntx at *
  k_extra "AFTER"
  k_extra "STEPS"
  rename News _ _ _ _ => N6
  have fT : ∀ q ∈ ntx, q.1 ≠ TX := News.neAll N6 (by k_extra "SUBT") tn1 (by k_mem) list_ne_tuple
  have fA : ∀ q ∈ ntx, q.1 ≠ AN := News.neAll N6 (by k_extra "SUBT") tn1 (by k_mem) (by rw [hA1.cls]; exact ne_typ rfl)
  have fF : ∀ q ∈ ntx, q.1 ≠ FL := News.neAll N6 (by k_extra "SUBT") tn1 (by k_mem) list_ne_tuple
  have fN : ∀ q ∈ ntx, q.1 ≠ FN := News.neAll N6 (by k_extra "SUBT") tn1 (by k_mem) (by rw [hF1'.cls]; exact ne_typ rfl)
  show wpAny _ _ _ _ _ _
  k_dflt (refine' func_spec (pre := [_, _, _, _, _]) (Tx := Tx1) (Fx := Fx1) (ts := ts1) (fs := fs1) (oA := oA1) (oF := oF1) (Tp := TupL ntx) (kk := kk) (dbk := dbk) ?B ?F ?X ?T ?hk ?hd ?hu ?N ?sep ?q1 ?q2 ?q3 ?q4 ?q5 ?q6 ?hA ?hF ?lo ?lo2 ?hTp ?hbk ?hdbk ?nb1 ?nb2 ?nb3 ?nb4 ?nd1 ?nd2 ?nd3 ?nd4 ?hl ?hl2 ?_; k_extra "CTX2"; (case N => exact N6); (case sep => k_extra "SEPL"); (case q1 => k_extra "NEC"); (case q2 => k_extra "NEC"); (case q3 => k_extra "NEC"); (case q4 => k_extra "NEC"); (case q5 => k_extra "NEC"); (case q6 => k_extra "NEC"); (case hA => exact hA1); (case hF => exact hF1'); (case lo => exact loA); (case lo2 => exact loF); (case hTp => exact fun v c x => TupL.at x (News.sub N6 (by k_extra "SUBT"))); (case hbk => k_extra "GET"); (case hdbk => k_extra "GET"); (case nb1 => k_extra "NEC"); (case nb2 => k_extra "NEC"); (case nb3 => k_extra "NEC"); (case nb4 => k_extra "NEC"); (case nd1 => k_extra "NEC"); (case nd2 => k_extra "NEC"); (case nd3 => k_extra "NEC"); (case nd4 => k_extra "NEC"); (case hl => k_extra "OM"); (case hl2 => k_extra "OM"))
  intro h' tk' tf2 nt2 ts2 fs2 n12 n22 oA2 oF2 c2 hc2' hA2 hF2 hnt2 F' N'
  generalize hT2 : putL Tx1 (Str.ofString "g") = Tx2 at *
  have hF2' := hF2.mono (Tq := TupL (nt2 ++ ntx)) fun v c t => TupL.ofQ t
  generalize hF2e : putL Fx1 c2 = Fx2 at *
  have tn2 := sep_app hnt2 tn1
  have sb2 : ∀ x ∈ nt, x ∈ nt2 ++ ntx := fun x hx => List.mem_append_right _ (sb1 x hx)
  have nI2 : ∀ q ∈ nt2 ++ ntx, ¬ q.1 = I := sep_app (News.neAll N' (by k_extra "SUBT2") hnt2 (by k_mem) (by rw [cI]; exact ne_typ rfl)) nI1
  have N7 : News h₀ L h' ((PL, listOf pv.toArray nP) :: (I, oI) :: (U, listOf [.int x0 t0, .ref D, .int xi t1].toArray nU) :: (H, listOf (hs).toArray nH) :: (S, listOf (ss).toArray nS) :: (TX, listOf (ts2).toArray n12) :: (AN, oA2) :: (FL, listOf (fs2).toArray n22) :: (FN, oF2) :: (CL, listOf cv.toArray nC) :: (SL, listOf sv.toArray nSL) :: (KL, listOf kv.toArray nK) :: (D, listOf ws.toArray 0) :: (st, instObj 381 dst) :: (dst, dictOf (stE w.params bk H S Tr kk2 uu) 7) :: (bk, instObj 154 dbk) :: (dbk, dictOf (bkE w.params TX AN FL FN kk) 4) :: (L + 1, o1c) :: (L + 1 + 1, o2c) :: (pt ++ (nt2 ++ ntx))) := News.swapIn4 (P := [_, _, _, _, _]) (X := nt2) (F := [_, _, _, _]) (R := [_, _, _, _, _, _, _, _, _, _]) (pt := pt) N'
  clear N' hF2 hnt2 N6
  generalize nt2 ++ ntx = nty at *
  k_extra "AFTER"
  k_extra "STEPS"
  rename_i LT _ F5 N5 l9
  refine LCg.CompSrc.ledger (ax := PL) rfl (by assumption) (by assumption) (by k_mem) (by rw [sizeLine_eq, List.size_toArray]; omega) ?_
  intro g'
  refine comp_rest (R := fun i y => ∃ p x, ps[i]? = some p ∧ ns[p]? = some x ∧ TupL nty y x.c) (.inr ⟨_, by k_mem, rfl, _, rfl⟩) ?_ ?_
  · intro j v I9 oI9 C9 oC9 D9 m9 ys h9 tk9 E9 hj hv hC hx F9 N9 off ne
    refine Classical.byContradiction fun nGo => ?_
    obtain ⟨p0, tp0, hp0, rfl⟩ := iP.get (i := j) (v := v) (by simpa using hv)
    obtain ⟨y0, hy0⟩ : ∃ y0, ns[p0]? = some y0 := ⟨_, List.getElem?_eq_getElem (by have := pI p0 (List.mem_of_getElem? hp0); omega)⟩
    obtain ⟨v0, hv0, tv0⟩ := LS.cC.get (i := p0) (c := y0.c) (by rw [List.getElem?_map, hy0]; rfl)
    refine nGo ?_; clear nGo
    have hv0' : cv[((p0 : Nat) : Int).toNat]? = some v0 := hv0
    clear hv
    k_extra "STEPS"
    have hp6 := pI p0 (List.mem_of_getElem? hp0)
    refine item_list (isListG (vs := cv) (News.get N9 (by k_mem))) (by k_extra "OM") (by k_extra "OM") hv0' ?_
    exact ⟨⟨p0, y0, hp0, hy0, tv0.mono sb2⟩, _, _, rfl, F9, N9⟩
  · intro ys hyl hy
    rw [List.size_toArray, lpv] at hyl
    have cR := row_cells hyl hy
    refine Classical.byContradiction fun nGo => ?_
    obtain ⟨bk2, f1p, f1a, f2p, f2a, lf2, arm⟩ := LS.bk.two hT1.symm hc1' hF1e.symm hT2.symm hc2' hF2e.symm
    obtain ⟨xs9, u9, cF9, u8⟩ := id hF2'
    have h0f : 0 ≤ selF wy ((ixL Fx1 c1 : Nat) : Int) ((ixL Fx2 c2 : Nat) : Int) := by
      unfold selF
      repeat' split
      all_goals omega
    have hsel : (selF wy ((ixL Fx1 c1 : Nat) : Int) ((ixL Fx2 c2 : Nat) : Int) = 0 ∧ ps.length = 2) ∨ (0 < selF wy ((ixL Fx1 c1 : Nat) : Int) ((ixL Fx2 c2 : Nat) : Int) ∧ ∃ c : Int × Int, Fx2[(selF wy ((ixL Fx1 c1 : Nat) : Int) ((ixL Fx2 c2 : Nat) : Int)).toNat]? = some c ∧ c.2 = (ps.length : Int)) := by
      obtain rfl | rfl | rfl : wy = 0 ∨ wy = 1 ∨ wy = 2 := by omega
      · refine .inr ⟨by show 0 < ((ixL Fx1 c1 : Nat) : Int); omega, c1, f1a, ?_⟩
        rw [lP, hc1']
        rfl
      · refine .inr ⟨by show 0 < ((ixL Fx2 c2 : Nat) : Int); omega, c2, f2a, ?_⟩
        rw [lP, hc2']
        rfl
      · exact .inl ⟨rfl, lP⟩
    generalize selF wy ((ixL Fx1 c1 : Nat) : Int) ((ixL Fx2 c2 : Nat) : Int) = fsel at *
    have har : (fsel = 0 ∧ ps.length = 2) ∨ (0 < fsel ∧ (arOf Fx2)[fsel.toNat]? = some ps.length) := by
      obtain h | ⟨h, c, h1, h2⟩ := hsel
      · exact .inl h
      · exact .inr ⟨h, by rw [arOf_at h1, h2]; rfl⟩
    have hp2 : ps.length ≤ 2 ∧ 0 < ps.length := by have := cntN_le wy; omega
    obtain ⟨rep, root, wf⟩ := LS.wf
    obtain ⟨H1, S1, ds, hG, rep', root', wf'⟩ := (wf.arMono arm).struct (ps := ps) (fun p hp => by have := pI p hp; omega) hp2.1 h0f har
    refine nGo ?_; clear nGo
    have gl := hG.len
    have rl : (rowOf ns ps).length = ps.length := by unfold rowOf; rw [List.length_map]
    have hlen : (H1 ++ (headOf fsel ++ ds)).length ≤ Ha.length + 5 := by
      simp only [List.length_append, headOf_len]
      split <;> omega
    intro D9 h9 tk9 F9 N9 off9
    have oD9 := off1_mem off9
    have dH : ¬ D9 = H := Ne.symm (oD9 (H, _) (by k_mem))
    have dS : ¬ D9 = S := Ne.symm (oD9 (S, _) (by k_mem))
    have fH9 : ∀ q ∈ nty, q.1 ≠ H := News.neAll N9 (by k_extra "SUBT") tn2 (by k_mem) list_ne_tuple
    have fS9 : ∀ q ∈ nty, q.1 ≠ S := News.neAll N9 (by k_extra "SUBT") tn2 (by k_mem) list_ne_tuple
    have hK : Blk h9 fs2 fsel (rowOf ns ps).length := by
      rw [rl]
      obtain ⟨h, h'⟩ | ⟨h, c, h1, h2⟩ := hsel
      · exact .inl ⟨h, h'⟩
      · obtain ⟨av, e1, t1⟩ := cF9.get h1
        obtain ⟨c1', c2'⟩ := c
        dsimp only at h2
        subst h2
        have hlt := (List.getElem?_eq_some_iff.mp h1).1
        exact .inr ⟨h, by omega, by omega, av, c1', e1, t1.at (News.sub N9 (by k_extra "SUBT"))⟩
    clear F5 N5 f1p f2p u9 u8 off9 oD9 hy arm
    k_extra "STEPS"
    show wpAny _ _ _ _ _ _
    k_dflt (refine' struct_walk (bk := bk) (TX := TX) (AN := AN) (FL := FL) (FN := FN) (Tp := TupL nty) (pre := [_, _, _, _, _]) ?B ?F ?X ?T ?hk ?hd ?hu ?N ?sep ?hHS ?hS ?hB ?hF ?hFH ?hFS ?hC ?hCH ?hCS ?hTp ?cH ?cS ?cC ?hG ?hK ?hrs ?hrs2 ?bH ?bS ?_; k_extra "CTX2"; (case hS => exact ⟨dst, Tr, kk2, uu, by k_extra "GET", by k_extra "GET"⟩); (case N => exact N9); (case sep => k_extra "SEPL"); (case hHS => k_extra "NEC"); (case hB => exact ⟨dbk, kk, by k_extra "GET", by k_extra "GET"⟩); (case hF => exact ⟨_, by k_extra "GET"⟩); (case hFH => k_extra "NEC"); (case hFS => k_extra "NEC"); (case hC => exact News.get N9 (.head _)); (case hCH => exact dH); (case hCS => exact dS); (case hTp => exact fun v c t => t.at (News.sub N9 (by k_extra "SUBT"))); (case cH => exact LS.cH.tmono sb2); (case cS => exact LS.cS.tmono sb2); (case cC => exact cR); (case hG => exact hG); (case hK => exact hK); (case hrs => k_extra "OM"); (case hrs2 => k_extra "OM"); (case bH => k_extra "OM"); (case bS => k_extra "OM"))
    intro h' tk' r nt3 hs' ss' n1' n2' cH' cS' tr' hnt3 F' N'
    have cH3 := cH'.fromQ
    have cS3 := cS'.fromQ
    have tn3 := sep_app hnt3 tn2
    have sb3 : ∀ x ∈ nty, x ∈ nt3 ++ nty := fun x hx => List.mem_append_right _ hx
    have sb4 : ∀ x ∈ nt, x ∈ nt3 ++ nty := fun x hx => sb3 x (sb2 x hx)
    have tr3 : TupL (nt3 ++ nty) r (tagOf fsel, (H1.length : Int)) := tr'.mono fun x hx => List.mem_append_left _ hx
    have nI3 : ∀ q ∈ nt3 ++ nty, ¬ q.1 = I := sep_app (News.neAll N' (by k_extra "SUBT2") hnt3 (by k_mem) (by rw [cI]; exact ne_typ rfl)) nI2
    have N7 : News h₀ L h' ((PL, listOf pv.toArray nP) :: (I, oI) :: (U, listOf [.int x0 t0, .ref D, .int xi t1].toArray nU) :: (H, listOf (hs').toArray n1') :: (S, listOf (ss').toArray n2') :: (TX, listOf (ts2).toArray n12) :: (AN, oA2) :: (FL, listOf (fs2).toArray n22) :: (FN, oF2) :: (CL, listOf cv.toArray nC) :: (SL, listOf sv.toArray nSL) :: (KL, listOf kv.toArray nK) :: (D, listOf ws.toArray 0) :: (st, instObj 381 dst) :: (dst, dictOf (stE w.params bk H S Tr kk2 uu) 7) :: (bk, instObj 154 dbk) :: (dbk, dictOf (bkE w.params TX AN FL FN kk) 4) :: (L + 1, o1c) :: (L + 1 + 1, o2c) :: (pt ++ (nt3 ++ nty))) := News.sub (News.swapIn (P := [_, _, _, _, _, _, _]) (X := nt3) (R := [_, _, _, _, _, _, _, _, _, _, _, _, _, _]) (pt := pt) N') (fun _ h => .tail _ (.tail _ h))
    clear N' cH' cS' hnt3 N9 F9
    generalize nt3 ++ nty = ntz at *
    k_extra "AFTER"
    k_extra "STEPS"
    rename News _ _ _ _ => N8
    show wpAny _ _ _ _ _ _
    refine law_turn4 (PL := PL) (nP := nP) (mv := r) B X T hd hu hws hI hi6 q1 q2 q3 q4 q5 q6 q7 q8 q9 q10 q11 q12 q13 q14 q15 q16 hc1 hc2 cI ⟨x0, xi, t0, t1, nU, hs', n1', ss', n2', ts2, n12, oA2, fs2, n22, oF2, cv, nC, sv, nSL, kv, nK, ntz, pt, Tx2, Fx2, H1 ++ (headOf fsel ++ ds), S1, ns, (tagOf fsel, (H1.length : Int)), .cons ?_ (.cons ?_ (.cons ?_ (.cons ?_ .nil))), rfl, ?_⟩ ?_ w0 w7 w5 hPL hPI iP ?_ pI (Mine.Fr.form (by assumption) (.cons rfl (.cons rfl (.cons rfl .nil)))) (News.sub N8 ?_)
    case refine_1 => rfl
    case refine_2 => rfl
    case refine_3 => rfl
    case refine_4 => rfl
    case refine_5 => exact ⟨LS.hx0, LS.hxi, LS.hxl, cH3, cS3, LS.cC.tmono sb4, LS.sP, LS.kP, hA2, hF2'.mono fun _ _ t => t.mono sb3, bk2, by rw [show kindOf3 wy = 0 from if_pos hw3]; exact ⟨rep', root', wf'⟩, LS.ln, by omega, by omega, tn3, LS.tp, tr3, LS.fr⟩
    case refine_6 => k_extra "SEPI"
    case refine_7 => rw [if_pos hw5]; exact lP
    case refine_8 => k_extra "SUB"
end
end Part26
section Part27
section
variable {prog : Program} {w : World} {p : Program} {loose : List Str} {mean : ExcName → Option Value} {mg mb : Str → Option Value} {dp un : Nat} {gd : Option (List Code)} {a : Addr} {ccd : Value} {outer : List Env} {A₀ : Around} {base h₀ : Heap} {L : Addr} {m : Str → Option Value} {s₁ : Shared} {h₁ : Heap} {tk₁ : Nat} {Q : Flow → Shared → Prop}
  (B : Below A₀ base outer h₀) (X : (Mine.hd.heap_1 w.params).In h₀) (T : Top p loose mean mg mb h₀) (hd : dp + 60 < recursionLimit) (hu : un + 1200 < cLine)
include B X T hd hu
theorem ln30 : True := by
  k_with_none
  (k_with "LIT0" => (first | with_reducible assumption | ((first | (with_reducible show @LE.le Nat _ (OfNat.ofNat _) (OfNat.ofNat _)) | (with_reducible show @LT.lt Nat _ (OfNat.ofNat _) (OfNat.ofNat _))); exact Nat.le_of_ble_eq_true rfl)))
  (k_with "LIT1" => (first | with_reducible assumption | (with_reducible refine' Nat.lt_of_lt_of_le ?ha ?hb; (case ha => with_reducible assumption); (case hb => k_extra "LIT0")) | (with_reducible refine' Nat.lt_of_le_of_lt ?ha ?hb; (case ha => with_reducible assumption); (case hb => k_extra "LIT0")) | (with_reducible refine' Nat.le_trans ?ha ?hb; (case ha => with_reducible assumption); (case hb => k_extra "LIT0")) | (with_reducible refine' Nat.le_of_lt (Nat.lt_of_lt_of_le ?ha ?hb); (case ha => with_reducible assumption); (case hb => k_extra "LIT0")) | (with_reducible refine' Nat.lt_of_le_of_lt (Nat.le_of_eq ?ha) ?hb; (case ha => with_reducible assumption); (case hb => k_extra "LIT0")) | (with_reducible refine' Nat.le_trans (Nat.le_of_eq ?ha) ?hb; (case ha => with_reducible assumption); (case hb => k_extra "LIT0"))))
  (k_with "LIT2" => (first | with_reducible assumption | (with_reducible refine' Nat.lt_of_lt_of_le ?ha ?hb; (case ha => with_reducible assumption); (case hb => k_extra "LIT1")) | (with_reducible refine' Nat.lt_of_le_of_lt ?ha ?hb; (case ha => with_reducible assumption); (case hb => k_extra "LIT1")) | (with_reducible refine' Nat.le_trans ?ha ?hb; (case ha => with_reducible assumption); (case hb => k_extra "LIT1")) | (with_reducible refine' Nat.le_of_lt (Nat.lt_of_lt_of_le ?ha ?hb); (case ha => with_reducible assumption); (case hb => k_extra "LIT1")) | (with_reducible refine' Nat.lt_of_le_of_lt (Nat.le_of_eq ?ha) ?hb; (case ha => with_reducible assumption); (case hb => k_extra "LIT1")) | (with_reducible refine' Nat.le_trans (Nat.le_of_eq ?ha) ?hb; (case ha => with_reducible assumption); (case hb => k_extra "LIT1"))))
  (k_with "OM" => (first | with_reducible assumption | with_reducible exact Int.natCast_nonneg _ | with_reducible exact Int.ofNat_lt.mpr (by with_reducible assumption) | with_reducible exact i63 (by k_extra "LIT2") | k_extra "LIT2" | omega))
  (k_with "LTC" => (first | with_reducible assumption | (refine' Nat.lt_trans ?ha ?hb; (case ha => with_reducible assumption); (case hb => k_extra "LTC"))))
  (k_with "NEC" => ((refine neN ?_; (try dsimp only); first | (refine' Nat.ne_of_lt ?hc; (case hc => k_extra "LTC")) | (refine' Nat.ne_of_gt ?hc; (case hc => k_extra "LTC")) | omega)))
  (k_with "ROOMN" => (first | (refine' roomN ?ha (Nat.add_assoc _ _ _) ?hb; (case ha => with_reducible assumption); (case hb => exact rfl)) | (refine' roomN ?ha rfl ?hb; (case ha => with_reducible assumption); (case hb => exact rfl)) | (refine' roomN ?ha ((Nat.add_assoc _ _ _).trans (Nat.add_assoc _ _ _)) ?hb; (case ha => with_reducible assumption); (case hb => exact rfl)) | exact Nat.lt_of_le_of_lt (Nat.le_add_right _ _) (by with_reducible assumption)))
  (k_with "MKUNITS" => (first | k_extra "ROOMN" | ktr_units))
  (k_with "MKNE" => (first | k_extra "NEC" | ((try dsimp only); assumption) | ((try dsimp only); exact Ne.symm (by assumption)) | ((try dsimp only); exact News.ne (by with_reducible assumption) (by k_mem) (by k_mem) (ne_typ rfl))))
  (k_with "MKALL" => (first | assumption | exact List.forall_mem_nil _ | (refine' List.forall_mem_cons.mpr ⟨?a, ?b⟩; (case a => k_ne); (case b => k_all))))
  (k_with "GET" => (first | exact Fr.keep (by with_reducible assumption) _ _ (by with_reducible assumption) | exact News.get (by with_reducible assumption) (by k_mem)))
  (k_with "MKINST" => (exact instG (by k_extra "GET") (by k_extra "GET")))
  (k_with "MISLIST" => (exact isListG (by k_extra "GET")))
  (k_with "ENTER" => (((case ks => assumption); (case k1 => assumption); (case k2 => assumption); (case k3 => assumption); (case k4 => assumption); (case kr => assumption); (case k5 => assumption); (case kK => assumption); (case k8 => first | k_extra "ROOMN" | ktr_room); (case k6 => k_is); (case k7 => k_is); (case k9 => exact BindsTo.of_eq rfl); (case kB => exact locs rfl); (case c2 => exact rfl); (case c3 => exact rfl); (case c4 => exact rfl); (case c5 => decide))))
  (k_with "subscriptTail" => ((k_here; (with_reducible show wpAny _ _ (subscriptTail _ _ (Value.ref _) (Value.int _ _)) _ _ _); k_dflt (refine' item_list ?k1 ?k2 ?k3 ?k4 ?_; (case k1 => is_list); (case k4 => assumption); (case k2 => k_extra "OM"); (case k3 => k_extra "OM")))))
  (k_with "subscriptTail" => ((k_here; (with_reducible show wpAny _ _ (subscriptTail _ _ (Value.ref _) (Value.int 1 _)) _ _ _); k_dflt (refine' item_tup1 ?k1 ?_; (case k1 => k_extra "GET")))))
  (k_with "subscriptTail" => ((k_here; (with_reducible show wpAny _ _ (subscriptTail _ _ (Value.ref _) (Value.int 0 _)) _ _ _); k_dflt (refine' item_tup0 ?k1 ?_; (case k1 => k_extra "GET")))))
  (k_with "compareOp Eq ref ref" => ((k_here; (with_reducible show wpAny _ _ (compareOp CmpOp.Eq (Value.ref _) (Value.ref _)) _ _ _); k_dflt (refine' eq_tup ?k1 ?k2 ?k3 ?_; (case k1 => k_extra "GET"); (case k2 => k_extra "GET"); (case k3 => k_units)))))
  (k_with "ite" => (first | (refine ite_pos ?c ?_; (case c => ((try simp only [decide_eq_true_eq, beq_iff_eq, Bool.not_eq_true', decide_eq_false_iff_not, ne_eq]); first | assumption | omega))) | (refine ite_neg ?c ?_; (case c => ((try simp only [decide_eq_true_eq, beq_iff_eq, Bool.not_eq_true', decide_eq_false_iff_not, ne_eq]); first | assumption | omega)))))
  (k_with "execs cons" => (((with_reducible refine wpAny_execs_cons ?_); (try dsimp only); k_fold)))
  (k_with "STEPS" => (((try k_fold); (repeat' (first | walk1 | (k_unfold; (try dsimp only)) | (dsimp only; walk1))); (all_goals (try dsimp only)))))
  (k_with "LV" => (((try dsimp only [WhileStep2]); refine' LeaveM.mk ?k1 ?k2 ?_; (case k1 => with_reducible assumption); (case k2 => with_reducible assumption); intro _ nK; (try dsimp only [List.nil_append, List.cons_append] at nK); revert nK; intro _; (try dsimp only))))
  (k_with "ROOM" => (first | k_extra "ROOMN" | (simp only [recursionLimit, cLine] at *; omega)))
  (k_with "CTX" => (((case B => with_reducible assumption); (case F => with_reducible assumption); (case X => with_reducible assumption); (case T => with_reducible assumption); (case hk => first | exact rfl | assumption); (case hd => k_extra "ROOM"); (case hu => k_extra "ROOM"); (case N => with_reducible assumption))))
  (k_with "KEEP" => (first | with_reducible assumption | exact DerV.keep (by with_reducible assumption) (Fr.keep (by with_reducible assumption)) | exact Sto.keep (by with_reducible assumption) (Fr.keep (by with_reducible assumption)) | exact Bok.keep (by with_reducible assumption) (Fr.keep (by with_reducible assumption)) | exact TupG.keep (by with_reducible assumption) (Fr.keep (by with_reducible assumption)) | exact ⟨_, by k_extra "GET"⟩ | exact ⟨_, _, _, _, rfl, by k_extra "GET"⟩ | assumption))
  (k_with "AFTER" => (((try dsimp only); (try k_sweep))))
  (k_with "call builtin:len" => ((k_here; (with_reducible show wpAny _ _ (call (Value.builtin "len") [Value.ref _]) _ _ _); k_dflt (refine' len_any ?k1 ?k2 ?_; (case k1 => is_list); (case k2 => first | with_reducible assumption | ((try simp only [List.length_append, List.length_cons, List.length_nil, List.length_set]); omega))))))
  (k_with "call builtin:list.append" => ((k_here; (with_reducible show wpAny _ _ (call (Value.builtin _) [Value.ref _, _]) _ _ _); k_dflt (refine' append_any ?k1 ?k2 ?k3 ?_ ?z; (case k1 => k_asm); (case k2 => k_asm); (case k3 => k_upd); (case z => first | with_reducible assumption | ((try simp only [List.length_append, List.length_cons, List.length_nil, List.length_set]); omega)); k_whole); intro _ _ _; (try k_sweep))))
  (k_with "setItem ref int" => ((k_here; (with_reducible show wpAny _ _ (setItem (Value.ref _) (Value.int _ _) _) _ _ _); k_dflt (refine' set_any ?k1 ?k2 ?k3 ?k4 ?k5 ?k6 ?_; (case k1 => k_asm); (case k2 => k_asm); (case k3 => k_upd); (case k4 => k_extra "OM"); (case k5 => first | with_reducible assumption | ((try simp only [List.length_append, List.length_cons, List.length_nil, List.length_set]); omega)); (case k6 => k_extra "OM"); k_whole); intro _ _ _; (try k_sweep))))
  (k_with "CTX2" => (((case B => with_reducible assumption); (case F => with_reducible assumption); (case X => with_reducible assumption); (case T => with_reducible assumption); (case hk => first | exact rfl | assumption); (case hd => k_extra "ROOM"); (case hu => k_extra "ROOM"))))
  (k_with "SEP" => (((repeat' (first | assumption | exact sep_nil | refine sep_app ?_ ?_ | refine sep_cons ?_ ?_)); (all_goals ((repeat' (first | exact nmNil | refine nmCons ?_ ?_)); all_goals first | assumption | k_extra "NEC" | exact Ne.symm (by assumption) | exact News.ne (by with_reducible assumption) (by k_mem) (by k_mem) (ne_typ rfl))))))
  (k_with "SPLIT1" => (first | (refine' News.at0 ?n; (case n => with_reducible assumption)) | (refine' News.at1 ?n; (case n => with_reducible assumption)) | (refine' News.at2 ?n; (case n => with_reducible assumption)) | (refine' News.at3 ?n; (case n => with_reducible assumption)) | (refine' News.at4 ?n; (case n => with_reducible assumption)) | (refine' News.at5 ?n; (case n => with_reducible assumption)) | (refine' News.at6 ?n; (case n => with_reducible assumption))))
  (k_with "pyIter ref" => (refine stopHere ?_))
  (k_with "SEPI" => (((repeat' (first | assumption | exact sep_nil | refine sep_app ?_ ?_ | refine sep_cons ?_ ?_)); (all_goals ((try dsimp only); first | assumption | k_extra "NEC" | exact Ne.symm (by assumption))))))
  (k_with "SUBT" => (first | exact sub_refl | (refine sub_cons ?_; k_extra "SUBT") | (refine sub_right ?_; k_extra "SUBT") | (refine sub_left ?_; k_extra "SUBT")))
  (k_with "MEM" => (first | exact memH | (with_reducible refine List.mem_append_right _ ?_; k_extra "MEM") | (with_reducible refine List.mem_append_left _ ?_; k_extra "MEM") | (with_reducible refine memT ?_; k_extra "MEM")))
  (k_with "SUBT2" => (first | exact sub_refl | (with_reducible refine sub_right ?_; k_extra "SUBT2") | (with_reducible refine sub_left ?_; k_extra "SUBT2") | (with_reducible refine sub_cons ?_; k_extra "SUBT2")))
  (k_with "SUBM" => (((repeat' (first | exact sep_nil | refine sep_app ?_ ?_ | refine sep_cons ?_ ?_)); (all_goals first | k_extra "MEM" | k_extra "SUBT2"))))
  (k_with "SUB" => (((repeat' (first | exact sep_nil | refine sep_app ?_ ?_ | refine sep_cons ?_ ?_)); (all_goals first | k_mem | k_extra "MEM" | k_extra "SUBT2" | (simp only [List.mem_append, List.mem_cons, List.not_mem_nil, true_or, or_true, or_false, false_or]; done) | (intro _ hx9; simp only [hx9, List.mem_append, List.mem_cons, List.not_mem_nil, true_or, or_true, or_false, false_or]; done) | k_extra "SUBT"))))
  (k_with "exec For Name Name cons nil" => ((k_here; (with_unfolding_all refine' For_invVF ?kF ?k1 ?k2 ?_; (case kF => assumption); (case k1 => exact rfl); (case k2 => exact rfl); k_whole))))
  (k_with "exec For Name Call cons nil" => ((k_here; (with_unfolding_all refine' For_invVF ?kF ?k1 ?k2 ?_; (case kF => assumption); (case k1 => exact rfl); (case k2 => exact rfl); k_whole))))
  (k_with "exec For Name Subscript cons nil" => ((k_here; (with_unfolding_all refine' For_invVF ?kF ?k1 ?k2 ?_; (case kF => assumption); (case k1 => exact rfl); (case k2 => exact rfl); k_whole))))
  (k_with "exec For Name Attribute cons nil" => ((k_here; (with_unfolding_all refine' For_invVF ?kF ?k1 ?k2 ?_; (case kF => assumption); (case k1 => exact rfl); (case k2 => exact rfl); k_whole))))
  (k_with "KEEP" => (first | with_reducible assumption | exact DerV.keep (by with_reducible assumption) (Fr.keep (by with_reducible assumption)) | exact Sto.keep (by with_reducible assumption) (Fr.keep (by with_reducible assumption)) | exact Bok.keep (by with_reducible assumption) (Fr.keep (by with_reducible assumption)) | exact TupG.keep (by with_reducible assumption) (Fr.keep (by with_reducible assumption)) | exact ⟨_, by k_extra "GET"⟩ | exact ⟨_, _, _, _, rfl, by k_extra "GET"⟩ | assumption))
  (k_with "call ref" => ((k_here; (with_reducible show wpAny _ _ (call (Value.ref 154) _) _ _ _); refine stopHere ?_)))
  (k_with "call ref" => ((k_here; (with_reducible show wpAny _ _ (call (Value.ref 381) _) _ _ _); refine stopHere ?_)))
  (k_with "call ref" => ((k_here; (with_reducible show wpAny _ _ (call (Value.ref 411) _) _ _ _); refine stopHere ?_)))
  (k_with "call ref" => ((k_here; (with_reducible show wpAny _ _ (call (Value.ref 418) _) _ _ _); refine stopHere ?_)))
  (k_with "call ref" => ((k_here; (with_reducible show wpAny _ _ (call (Value.ref 109) _) _ _ _); refine stopHere ?_)))
  (k_with "call ref" => ((k_here; (with_reducible show wpAny _ _ (call (Value.ref 342) _) _ _ _); refine stopHere ?_)))
  (k_with "call ref" => ((k_here; (with_reducible show wpAny _ _ (call (Value.ref 209) _) _ _ _); refine stopHere ?_)))
  (k_with "call ref" => ((k_here; (with_reducible show wpAny _ _ (call (Value.ref 244) _) _ _ _); refine stopHere ?_)))
  (k_with "call ref" => ((k_here; (with_reducible show wpAny _ _ (call (Value.ref 279) _) _ _ _); refine stopHere ?_)))
  (k_with "call ref" => ((k_here; (with_reducible show wpAny _ _ (call (Value.ref 230) _) _ _ _); refine stopHere ?_)))
  (k_with "call ref" => ((k_here; (with_reducible show wpAny _ _ (call (Value.ref 397) _) _ _ _); refine stopHere ?_)))
  (k_with "call ref" => ((k_here; (with_reducible show wpAny _ _ (call (Value.ref 404) _) _ _ _); refine stopHere ?_)))
  (k_with "SEPL" => (((repeat' (first | assumption | exact sep_nil | refine sep_app ?_ ?_ | refine sep_cons ?_ ?_)); (all_goals first | exact sepOne (by assumption) | exact sepTwo (by assumption) (by assumption) | exact sepFour (by assumption) (by assumption) (by assumption) (by assumption) | ((repeat' (first | exact nmNil | refine nmCons ?_ ?_)); all_goals first | assumption | k_extra "NEC" | exact Ne.symm (by assumption) | exact News.ne (by with_reducible assumption) (by k_mem) (by k_mem) (ne_typ rfl))))))
  (k_with "execs cons" => (((with_reducible show wpAny _ _ (execs (Stmt.Expr _ _ :: Stmt.Expr _ _ :: _) _) _ _ _); refine stopHere ?_)))
  (k_with "subscriptTail" => ((k_here; (with_reducible show wpAny _ _ (subscriptTail _ _ (Value.ref _) (Value.int (List.getD _ _ _) _)) _ _ _); rw [getD_one]; k_dflt (refine' item_list ?k1 ?k2 ?k3 ?k4 ?_; (case k1 => is_list); (case k4 => first | assumption | exact rfl); (case k2 => k_extra "OM"); (case k3 => k_extra "OM")))))
  (k_with "subscriptTail" => ((k_here; (with_reducible show wpAny _ _ (subscriptTail _ _ (Value.ref _) (Value.int _ _)) _ _ _); k_dflt (refine' item_list ?k1 ?k2 ?k3 ?k4 ?_; (case k1 => is_list); (case k4 => first | assumption | exact rfl); (case k2 => k_extra "OM"); (case k3 => k_extra "OM")))))
  trivial
theorem law_t3B {U H S TX AN FL FN CL SL KL D st dst bk dbk Tr I PL : Addr} {ws pv : List Value} {wi : List Int} {kk2 uu kk : Nat → Tok} {o1c o2c oI : Obj} {i nP : Nat} {tw : Tok} {ps : List Nat}
    (hws : ws.length ≤ 50) (hI : IntsAre ws wi) (hi6 : Hid (i < 6)) (q1 : D < U) (q2 : U < dbk) (q3 : dbk < bk) (q4 : bk < TX) (q5 : TX < AN) (q6 : AN < FL) (q7 : FL < FN) (q8 : FN < dst) (q9 : dst < st) (q10 : st < H) (q11 : H < S) (q12 : S < CL) (q13 : CL < SL) (q14 : SL < KL) (q15 : L + 1 < D) (q16 : L + 1 + 1 < D)
    (hc1 : o1c.data = .cell (some (.ref CL))) (hc2 : o2c.data = .cell (some (.ref KL))) (cI : oI.cls = .type "range_iterator") {news : List (Addr × Obj)}
    (hJ : JL prog w ws.length U H S TX AN FL FN CL SL KL D st dst bk dbk [(D, listOf ws.toArray 0), (st, instObj 381 dst), (dst, dictOf (stE w.params bk H S Tr kk2 uu) 7), (bk, instObj 154 dbk), (dbk, dictOf (bkE w.params TX AN FL FN kk) 4), (L + 1, o1c), (L + 1 + 1, o2c)] i m news) (hne : ∀ p ∈ news, ¬ p.1 = I) (w0 : 0 ≤ (3 : Int)) (w7 : Hid ((3 : Int) < 7)) (w5 : (3 : Int) < 5 → 0 < i) (hPL : KL < PL) (hPI : ¬ PL = I) (iP : IntsN pv ps) (lP : ps.length = if (3 : Int) < 5 then cntN (3 : Int) else 0) (pI : ∀ p ∈ ps, p < i)
    (F₁ : Fr h₀ L h₁ (over [(Str.ofString "parts", .ref PL), (Str.ofString "way", .int (3 : Int) tw)] m)) (N₁ : News h₀ L h₁ ((PL, listOf pv.toArray nP) :: (I, oI) :: news)) :
    wpAny (model prog w) (ktrTop dp un gd (Str.ofString "law") lawScope L a ccd (cellsFrom (L + 1) lawScope.names []) outer) (execs (forRest 6 3) (envX (Str.ofString "law") lawScope L a ccd (cellsFrom (L + 1) lawScope.names [])))
      (TurnJ h₀ L [(I, oI)] I (JL prog w ws.length U H S TX AN FL FN CL SL KL D st dst bk dbk [(D, listOf ws.toArray 0), (st, instObj 381 dst), (dst, dictOf (stE w.params bk H S Tr kk2 uu) 7), (bk, instObj 154 dbk), (dbk, dictOf (bkE w.params TX AN FL FN kk) 4), (L + 1, o1c), (L + 1 + 1, o2c)] (i + 1)) s₁ Q) (fun _ _ => False) { s₁ with heap := h₁, toks := tk₁ } := by
  generalize hg1 : forRest 6 3 = bd
  generalize hg2 : lawScope = sc
  conv at hg1 => lhs; whnf
  conv at hg2 => lhs; whnf
  subst hg1
  subst hg2
  refine Classical.byContradiction fun nGo => ?_
  obtain ⟨x0, xi, t0, t1, nU, hs, nH, ss, nS, ts, n1, oA, fs, n2, oF, cv, nC, sv, nSL, kv, nK, nt, pt, Tx, Fx, Ha, Sa, ns, ag, rfl, LS⟩ := hJ
  rw [ag.form] at F₁
  dsimp only [List.cons_append, List.nil_append] at N₁
  have q1' := ltN q1
  have q2' := ltN q2
  have q3' := ltN q3
  have q4' := ltN q4
  have q5' := ltN q5
  have q6' := ltN q6
  have q7' := ltN q7
  have q8' := ltN q8
  have q9' := ltN q9
  have q10' := ltN q10
  have q11' := ltN q11
  have q12' := ltN q12
  have q13' := ltN q13
  have q14' := ltN q14
  have q15' := ltN q15
  have q16' := ltN q16
  have hne0 := hne
  obtain ⟨i1, i2, i3, i4, i5, i6, i7, i8, i9, i10, i11, i12, i13, i14, i15, i16, i17, ipt, int_⟩ := neSplit hne
  have hi6' : i < 6 := hi6
  have hLD : @LT.lt Nat _ L D := Nat.lt_of_succ_lt q15'
  have lH := LS.lH
  have lS := LS.lS
  have lH' := LS.cH.length
  have lS' := LS.cS.length
  have pU : ∀ q ∈ pt, q.1 ≠ U := abN (X := U) LS.tp (show @LT.lt Nat _ U KL by first | k_extra "LTC" | omega)
  have pH : ∀ q ∈ pt, q.1 ≠ H := abN (X := H) LS.tp (show @LT.lt Nat _ H KL by first | k_extra "LTC" | omega)
  have pS : ∀ q ∈ pt, q.1 ≠ S := abN (X := S) LS.tp (show @LT.lt Nat _ S KL by first | k_extra "LTC" | omega)
  have fH : ∀ q ∈ nt, q.1 ≠ H := News.neAll N₁ (by k_extra "SUBT") LS.tn (by k_mem) list_ne_tuple
  have fS : ∀ q ∈ nt, q.1 ≠ S := News.neAll N₁ (by k_extra "SUBT") LS.tn (by k_mem) list_ne_tuple
  have hPL' := ltN hPL
  have lC' := LS.cC.length
  have ln4 := LS.ln
  rw [List.length_map] at lC'
  have b1 : cv.length ≤ 100 := len6 lC' ln4 (Nat.le_of_lt hi6')
  have b5 : hs.length ≤ 100 := len36 lH' lH (Nat.le_of_lt hi6')
  have b6 : ss.length ≤ 100 := len1 lS' lS (Nat.le_of_lt hi6')
  have b7 : Ha.length ≤ 100 := len36 rfl lH (Nat.le_of_lt hi6')
  have b8 : Sa.length ≤ 100 := len1 rfl lS (Nat.le_of_lt hi6')
  have hTp : ∀ v c, TupL nt v c → TupG h₁ v c := fun v c t => t.at (News.sub N₁ (by k_extra "SUBT"))
  obtain ⟨p0, rfl⟩ : ∃ p0, ps = [p0] := List.length_eq_one_iff.mp (by rw [lP]; rfl)
  obtain ⟨tp0, rfl⟩ := iP.one
  have hp0 := pI p0 (.head _)
  obtain ⟨y0, hy0⟩ : ∃ y0, ns[p0]? = some y0 := ⟨_, List.getElem?_eq_getElem (by k_extra "OM")⟩
  obtain ⟨v0, hv0, tv0⟩ := LS.cC.get (i := p0) (c := y0.c) (by rw [List.getElem?_map, hy0]; rfl)
  have hv0' : cv[((p0 : Nat) : Int).toNat]? = some v0 := hv0
  obtain ⟨rep, root, wf⟩ := LS.wf
  obtain ⟨H1, S1, d1, rep1, hG, wf1, dr1, dt1, _, lh1, ls1⟩ := wf.lfh hy0
  refine nGo ?_; clear nGo
  k_extra "STEPS"
  rename News _ _ _ _ => N6
  show wpAny _ _ _ _ _ _
  k_dflt (refine' lfh_spec (bk := bk) (Tp := TupL nt) ?B ?F ?X ?T ?hk ?hd ?hu ?N ?sep ?hHS ?hS ?hTp ?cH ?cS ?tc ?hG ?bH ?bS ?_; k_extra "CTX2"; (case hS => exact ⟨dst, Tr, kk2, uu, by k_extra "GET", by k_extra "GET"⟩); (case N => exact News.two3 N6); (case hHS => k_extra "NEC"); (case hTp => exact fun v c t => t.at (News.sub N6 (by k_extra "SUBT"))); (case cH => exact LS.cH); (case cS => exact LS.cS); (case tc => exact tv0); (case hG => exact hG); (case bH => k_extra "OM"); (case bS => k_extra "OM"); (case sep => k_extra "SEPL"))
  intro h' tk' r nt' hs' ss' n1' n2' cH' cS' tr' hnt' F' N'
  have cH2 := cH'.fromQ
  have cS2 := cS'.fromQ
  have tr2 := TupL.ofQ tr'
  have tn2 := sep_app hnt' LS.tn
  have sb2 : ∀ x ∈ nt, x ∈ nt' ++ nt := fun x hx => List.mem_append_right _ hx
  have nI2 : ∀ q ∈ nt', q.1 ≠ I := News.neAll N' (by k_extra "SUBT2") hnt' (by k_mem) (by rw [cI]; exact ne_typ rfl)
  have nI3 : ∀ q ∈ nt' ++ nt, ¬ q.1 = I := sep_app nI2 int_
  have N7 : News h₀ L h' ((PL, listOf [Value.int ((p0 : Nat) : Int) tp0].toArray nP) :: (I, oI) :: (U, listOf [.int x0 t0, .ref D, .int xi t1].toArray nU) :: (H, listOf (hs').toArray n1') :: (S, listOf (ss').toArray n2') :: (TX, listOf (ts).toArray n1) :: (AN, oA) :: (FL, listOf (fs).toArray n2) :: (FN, oF) :: (CL, listOf cv.toArray nC) :: (SL, listOf sv.toArray nSL) :: (KL, listOf kv.toArray nK) :: (D, listOf ws.toArray 0) :: (st, instObj 381 dst) :: (dst, dictOf (stE w.params bk H S Tr kk2 uu) 7) :: (bk, instObj 154 dbk) :: (dbk, dictOf (bkE w.params TX AN FL FN kk) 4) :: (L + 1, o1c) :: (L + 1 + 1, o2c) :: (pt ++ (nt' ++ nt))) := News.sub N' (by k_extra "SUB")
  clear N' cH' cS' tr' nI2
  generalize nt' ++ nt = ntx at *
  have cL2 := cH2.length
  have cL3 := cS2.length
  have xH : ∀ q ∈ ntx, q.1 ≠ H := News.neAll N7 (by k_extra "SUBT") tn2 (by k_mem) list_ne_tuple
  have xS : ∀ q ∈ ntx, q.1 ≠ S := News.neAll N7 (by k_extra "SUBT") tn2 (by k_mem) list_ne_tuple
  k_extra "AFTER"
  k_extra "STEPS"
  show wpAny _ _ _ _ _ _
  k_dflt (refine' newvar_spec (bk := bk) (S := S) ?B ?F ?X ?T ?hk ?hd ?hu ?N ?sep ?hS ?hl ?_; k_extra "CTX2"; (case hS => exact ⟨dst, Tr, kk2, uu, by k_extra "GET", by k_extra "GET"⟩); (case N => k_extra "SPLIT1"); (case hl => k_extra "OM"); (case sep => k_extra "SEPL"))
  intro h' tk' a' t3 t4 F' N'
  (try dsimp only [List.nil_append, List.cons_append, List.append_nil] at N')
  have haI : ¬ a' = I := News.ne N' (by k_mem) (by k_mem) (by rw [cI]; exact ne_typ rfl)
  k_extra "AFTER"
  k_extra "STEPS"
  have aH : ¬ a' = H := News.ne (by assumption) (by k_mem) (by k_mem) (ne_typ rfl)
  show wpAny _ _ _ _ _ _
  k_dflt (refine' bind0_spec (bk := bk) (S := S) (c := (0, (hs'.length : Int))) ?B ?F ?X ?T ?hk ?hd ?hu ?N ?sep ?hS ?hl ?hv ?e0 ?e1 ?e2 ?_; k_extra "CTX2"; (case hS => exact ⟨dst, Tr, kk2, uu, by k_extra "GET", by k_extra "GET"⟩); (case N => k_extra "SPLIT1"); (case hv => exact ⟨_, _, _, _, rfl, by k_extra "GET"⟩); (case e0 => exact rfl); (case e1 => exact Int.natCast_nonneg _); (case e2 => simp only [List.length_append, List.length_cons, List.length_nil]; omega); (case hl => simp only [List.length_append, List.length_cons, List.length_nil]; omega); (case sep => k_extra "SEPL"))
  intro h' tk' F' N'
  (try dsimp only [List.nil_append, List.cons_append, List.append_nil] at N')
  rw [set_snoc] at N'
  k_extra "AFTER"
  k_extra "STEPS"
  have hq : TupL ((a', tupO (0, (hs'.length : Int)) t3 t4 0) :: ntx) (.ref a') (0, (H1.length : Int)) := ⟨a', t3, t4, rfl, by rw [← cL2]; exact .head _⟩
  have sb3 : ∀ x ∈ nt, x ∈ (a', tupO (0, (hs'.length : Int)) t3 t4 0) :: ntx := fun x hx => .tail _ (sb2 x hx)
  rename News _ _ _ _ => N8
  show wpAny _ _ _ _ _ _
  refine law_turn4 (PL := PL) (nP := nP) (mv := (.ref a')) B X T hd hu hws hI hi6 q1 q2 q3 q4 q5 q6 q7 q8 q9 q10 q11 q12 q13 q14 q15 q16 hc1 hc2 cI ⟨x0, xi, t0, t1, nU, hs' ++ [r], (n1' + 1), ss', n2', ts, n1, oA, fs, n2, oF, cv, nC, sv, nSL, kv, nK, (a', tupO (0, (hs'.length : Int)) t3 t4 0) :: ntx, pt, Tx, Fx, H1 ++ [d1], S1, ns, (0, (H1.length : Int)), .cons ?_ (.cons ?_ (.cons ?_ (.cons ?_ .nil))), rfl, ?_⟩ ?_ w0 w7 w5 hPL hPI iP ?_ pI (Mine.Fr.form (by assumption) (.cons rfl (.cons rfl (.cons rfl .nil)))) (News.sub N8 ?_)
  case refine_1 => rfl
  case refine_2 => rfl
  case refine_3 => rfl
  case refine_4 => rfl
  case refine_5 => exact ⟨LS.hx0, LS.hxi, LS.hxl, (cH2.tmono sub_cons_refl).app (.cons (tr2.mono sub_cons_refl) .nil), cS2.tmono sub_cons_refl, LS.cC.tmono sb3, LS.sP, LS.kP, LS.aP, LS.fP.mono fun _ _ t => t.mono sb3, LS.bk.succ, wf1.bound0 hy0 dr1 dt1, LS.ln, by simp only [List.length_append, List.length_cons, List.length_nil]; omega, by omega, sep_cons rfl tn2, LS.tp, hq, LS.fr⟩
  case refine_6 => k_extra "SEPI"
  case refine_7 => exact lP
  case refine_8 => k_extra "SUB"
end
section
variable {prog : Program} {w : World} {p : Program} {loose : List Str} {mean : ExcName → Option Value} {mg mb : Str → Option Value} {dp un : Nat} {gd : Option (List Code)} {a : Addr} {ccd : Value} {outer : List Env} {A₀ : Around} {base h₀ : Heap} {L : Addr} {m : Str → Option Value} {s₁ : Shared} {h₁ : Heap} {tk₁ : Nat} {Q : Flow → Shared → Prop}
  (B : Below A₀ base outer h₀) (X : (Mine.hd.heap_1 w.params).In h₀) (T : Top p loose mean mg mb h₀) (hd : dp + 60 < recursionLimit) (hu : un + 1200 < cLine)
include B X T hd hu
theorem ln31 : True := by
  k_with_none
  (k_with "LIT0" => (first | with_reducible assumption | ((first | (with_reducible show @LE.le Nat _ (OfNat.ofNat _) (OfNat.ofNat _)) | (with_reducible show @LT.lt Nat _ (OfNat.ofNat _) (OfNat.ofNat _))); exact Nat.le_of_ble_eq_true rfl)))
  (k_with "LIT1" => (first | with_reducible assumption | (with_reducible refine' Nat.lt_of_lt_of_le ?ha ?hb; (case ha => with_reducible assumption); (case hb => k_extra "LIT0")) | (with_reducible refine' Nat.lt_of_le_of_lt ?ha ?hb; (case ha => with_reducible assumption); (case hb => k_extra "LIT0")) | (with_reducible refine' Nat.le_trans ?ha ?hb; (case ha => with_reducible assumption); (case hb => k_extra "LIT0")) | (with_reducible refine' Nat.le_of_lt (Nat.lt_of_lt_of_le ?ha ?hb); (case ha => with_reducible assumption); (case hb => k_extra "LIT0")) | (with_reducible refine' Nat.lt_of_le_of_lt (Nat.le_of_eq ?ha) ?hb; (case ha => with_reducible assumption); (case hb => k_extra "LIT0")) | (with_reducible refine' Nat.le_trans (Nat.le_of_eq ?ha) ?hb; (case ha => with_reducible assumption); (case hb => k_extra "LIT0"))))
  (k_with "LIT2" => (first | with_reducible assumption | (with_reducible refine' Nat.lt_of_lt_of_le ?ha ?hb; (case ha => with_reducible assumption); (case hb => k_extra "LIT1")) | (with_reducible refine' Nat.lt_of_le_of_lt ?ha ?hb; (case ha => with_reducible assumption); (case hb => k_extra "LIT1")) | (with_reducible refine' Nat.le_trans ?ha ?hb; (case ha => with_reducible assumption); (case hb => k_extra "LIT1")) | (with_reducible refine' Nat.le_of_lt (Nat.lt_of_lt_of_le ?ha ?hb); (case ha => with_reducible assumption); (case hb => k_extra "LIT1")) | (with_reducible refine' Nat.lt_of_le_of_lt (Nat.le_of_eq ?ha) ?hb; (case ha => with_reducible assumption); (case hb => k_extra "LIT1")) | (with_reducible refine' Nat.le_trans (Nat.le_of_eq ?ha) ?hb; (case ha => with_reducible assumption); (case hb => k_extra "LIT1"))))
  (k_with "OM" => (first | with_reducible assumption | with_reducible exact Int.natCast_nonneg _ | with_reducible exact Int.ofNat_lt.mpr (by with_reducible assumption) | with_reducible exact i63 (by k_extra "LIT2") | k_extra "LIT2" | omega))
  (k_with "LTC" => (first | with_reducible assumption | (refine' Nat.lt_trans ?ha ?hb; (case ha => with_reducible assumption); (case hb => k_extra "LTC"))))
  (k_with "NEC" => ((refine neN ?_; (try dsimp only); first | (refine' Nat.ne_of_lt ?hc; (case hc => k_extra "LTC")) | (refine' Nat.ne_of_gt ?hc; (case hc => k_extra "LTC")) | omega)))
  (k_with "ROOMN" => (first | (refine' roomN ?ha (Nat.add_assoc _ _ _) ?hb; (case ha => with_reducible assumption); (case hb => exact rfl)) | (refine' roomN ?ha rfl ?hb; (case ha => with_reducible assumption); (case hb => exact rfl)) | (refine' roomN ?ha ((Nat.add_assoc _ _ _).trans (Nat.add_assoc _ _ _)) ?hb; (case ha => with_reducible assumption); (case hb => exact rfl)) | exact Nat.lt_of_le_of_lt (Nat.le_add_right _ _) (by with_reducible assumption)))
  (k_with "MKUNITS" => (first | k_extra "ROOMN" | ktr_units))
  (k_with "MKNE" => (first | k_extra "NEC" | ((try dsimp only); assumption) | ((try dsimp only); exact Ne.symm (by assumption)) | ((try dsimp only); exact News.ne (by with_reducible assumption) (by k_mem) (by k_mem) (ne_typ rfl))))
  (k_with "MKALL" => (first | assumption | exact List.forall_mem_nil _ | (refine' List.forall_mem_cons.mpr ⟨?a, ?b⟩; (case a => k_ne); (case b => k_all))))
  (k_with "GET" => (first | exact Fr.keep (by with_reducible assumption) _ _ (by with_reducible assumption) | exact News.get (by with_reducible assumption) (by k_mem)))
  (k_with "MKINST" => (exact instG (by k_extra "GET") (by k_extra "GET")))
  (k_with "MISLIST" => (exact isListG (by k_extra "GET")))
  (k_with "ENTER" => (((case ks => assumption); (case k1 => assumption); (case k2 => assumption); (case k3 => assumption); (case k4 => assumption); (case kr => assumption); (case k5 => assumption); (case kK => assumption); (case k8 => first | k_extra "ROOMN" | ktr_room); (case k6 => k_is); (case k7 => k_is); (case k9 => exact BindsTo.of_eq rfl); (case kB => exact locs rfl); (case c2 => exact rfl); (case c3 => exact rfl); (case c4 => exact rfl); (case c5 => decide))))
  (k_with "subscriptTail" => ((k_here; (with_reducible show wpAny _ _ (subscriptTail _ _ (Value.ref _) (Value.int _ _)) _ _ _); k_dflt (refine' item_list ?k1 ?k2 ?k3 ?k4 ?_; (case k1 => is_list); (case k4 => assumption); (case k2 => k_extra "OM"); (case k3 => k_extra "OM")))))
  (k_with "subscriptTail" => ((k_here; (with_reducible show wpAny _ _ (subscriptTail _ _ (Value.ref _) (Value.int 1 _)) _ _ _); k_dflt (refine' item_tup1 ?k1 ?_; (case k1 => k_extra "GET")))))
  (k_with "subscriptTail" => ((k_here; (with_reducible show wpAny _ _ (subscriptTail _ _ (Value.ref _) (Value.int 0 _)) _ _ _); k_dflt (refine' item_tup0 ?k1 ?_; (case k1 => k_extra "GET")))))
  (k_with "compareOp Eq ref ref" => ((k_here; (with_reducible show wpAny _ _ (compareOp CmpOp.Eq (Value.ref _) (Value.ref _)) _ _ _); k_dflt (refine' eq_tup ?k1 ?k2 ?k3 ?_; (case k1 => k_extra "GET"); (case k2 => k_extra "GET"); (case k3 => k_units)))))
  (k_with "ite" => (first | (refine ite_pos ?c ?_; (case c => ((try simp only [decide_eq_true_eq, beq_iff_eq, Bool.not_eq_true', decide_eq_false_iff_not, ne_eq]); first | assumption | omega))) | (refine ite_neg ?c ?_; (case c => ((try simp only [decide_eq_true_eq, beq_iff_eq, Bool.not_eq_true', decide_eq_false_iff_not, ne_eq]); first | assumption | omega)))))
  (k_with "execs cons" => (((with_reducible refine wpAny_execs_cons ?_); (try dsimp only); k_fold)))
  (k_with "STEPS" => (((try k_fold); (repeat' (first | walk1 | (k_unfold; (try dsimp only)) | (dsimp only; walk1))); (all_goals (try dsimp only)))))
  (k_with "LV" => (((try dsimp only [WhileStep2]); refine' LeaveM.mk ?k1 ?k2 ?_; (case k1 => with_reducible assumption); (case k2 => with_reducible assumption); intro _ nK; (try dsimp only [List.nil_append, List.cons_append] at nK); revert nK; intro _; (try dsimp only))))
  (k_with "ROOM" => (first | k_extra "ROOMN" | (simp only [recursionLimit, cLine] at *; omega)))
  (k_with "CTX" => (((case B => with_reducible assumption); (case F => with_reducible assumption); (case X => with_reducible assumption); (case T => with_reducible assumption); (case hk => first | exact rfl | assumption); (case hd => k_extra "ROOM"); (case hu => k_extra "ROOM"); (case N => with_reducible assumption))))
  (k_with "KEEP" => (first | with_reducible assumption | exact DerV.keep (by with_reducible assumption) (Fr.keep (by with_reducible assumption)) | exact Sto.keep (by with_reducible assumption) (Fr.keep (by with_reducible assumption)) | exact Bok.keep (by with_reducible assumption) (Fr.keep (by with_reducible assumption)) | exact TupG.keep (by with_reducible assumption) (Fr.keep (by with_reducible assumption)) | exact ⟨_, by k_extra "GET"⟩ | exact ⟨_, _, _, _, rfl, by k_extra "GET"⟩ | assumption))
  (k_with "AFTER" => (((try dsimp only); (try k_sweep))))
  (k_with "call builtin:len" => ((k_here; (with_reducible show wpAny _ _ (call (Value.builtin "len") [Value.ref _]) _ _ _); k_dflt (refine' len_any ?k1 ?k2 ?_; (case k1 => is_list); (case k2 => first | with_reducible assumption | ((try simp only [List.length_append, List.length_cons, List.length_nil, List.length_set]); omega))))))
  (k_with "call builtin:list.append" => ((k_here; (with_reducible show wpAny _ _ (call (Value.builtin _) [Value.ref _, _]) _ _ _); k_dflt (refine' append_any ?k1 ?k2 ?k3 ?_ ?z; (case k1 => k_asm); (case k2 => k_asm); (case k3 => k_upd); (case z => first | with_reducible assumption | ((try simp only [List.length_append, List.length_cons, List.length_nil, List.length_set]); omega)); k_whole); intro _ _ _; (try k_sweep))))
  (k_with "setItem ref int" => ((k_here; (with_reducible show wpAny _ _ (setItem (Value.ref _) (Value.int _ _) _) _ _ _); k_dflt (refine' set_any ?k1 ?k2 ?k3 ?k4 ?k5 ?k6 ?_; (case k1 => k_asm); (case k2 => k_asm); (case k3 => k_upd); (case k4 => k_extra "OM"); (case k5 => first | with_reducible assumption | ((try simp only [List.length_append, List.length_cons, List.length_nil, List.length_set]); omega)); (case k6 => k_extra "OM"); k_whole); intro _ _ _; (try k_sweep))))
  (k_with "CTX2" => (((case B => with_reducible assumption); (case F => with_reducible assumption); (case X => with_reducible assumption); (case T => with_reducible assumption); (case hk => first | exact rfl | assumption); (case hd => k_extra "ROOM"); (case hu => k_extra "ROOM"))))
  (k_with "SEP" => (((repeat' (first | assumption | exact sep_nil | refine sep_app ?_ ?_ | refine sep_cons ?_ ?_)); (all_goals ((repeat' (first | exact nmNil | refine nmCons ?_ ?_)); all_goals first | assumption | k_extra "NEC" | exact Ne.symm (by assumption) | exact News.ne (by with_reducible assumption) (by k_mem) (by k_mem) (ne_typ rfl))))))
  (k_with "SPLIT1" => (first | (refine' News.at0 ?n; (case n => with_reducible assumption)) | (refine' News.at1 ?n; (case n => with_reducible assumption)) | (refine' News.at2 ?n; (case n => with_reducible assumption)) | (refine' News.at3 ?n; (case n => with_reducible assumption)) | (refine' News.at4 ?n; (case n => with_reducible assumption)) | (refine' News.at5 ?n; (case n => with_reducible assumption)) | (refine' News.at6 ?n; (case n => with_reducible assumption))))
  (k_with "pyIter ref" => (refine stopHere ?_))
  (k_with "SEPI" => (((repeat' (first | assumption | exact sep_nil | refine sep_app ?_ ?_ | refine sep_cons ?_ ?_)); (all_goals ((try dsimp only); first | assumption | k_extra "NEC" | exact Ne.symm (by assumption))))))
  (k_with "SUBT" => (first | exact sub_refl | (refine sub_cons ?_; k_extra "SUBT") | (refine sub_right ?_; k_extra "SUBT") | (refine sub_left ?_; k_extra "SUBT")))
  (k_with "MEM" => (first | exact memH | (with_reducible refine List.mem_append_right _ ?_; k_extra "MEM") | (with_reducible refine List.mem_append_left _ ?_; k_extra "MEM") | (with_reducible refine memT ?_; k_extra "MEM")))
  (k_with "SUBT2" => (first | exact sub_refl | (with_reducible refine sub_right ?_; k_extra "SUBT2") | (with_reducible refine sub_left ?_; k_extra "SUBT2") | (with_reducible refine sub_cons ?_; k_extra "SUBT2")))
  (k_with "SUBM" => (((repeat' (first | exact sep_nil | refine sep_app ?_ ?_ | refine sep_cons ?_ ?_)); (all_goals first | k_extra "MEM" | k_extra "SUBT2"))))
  (k_with "SUB" => (((repeat' (first | exact sep_nil | refine sep_app ?_ ?_ | refine sep_cons ?_ ?_)); (all_goals first | k_mem | k_extra "MEM" | k_extra "SUBT2" | (simp only [List.mem_append, List.mem_cons, List.not_mem_nil, true_or, or_true, or_false, false_or]; done) | (intro _ hx9; simp only [hx9, List.mem_append, List.mem_cons, List.not_mem_nil, true_or, or_true, or_false, false_or]; done) | k_extra "SUBT"))))
  (k_with "exec For Name Name cons nil" => ((k_here; (with_unfolding_all refine' For_invVF ?kF ?k1 ?k2 ?_; (case kF => assumption); (case k1 => exact rfl); (case k2 => exact rfl); k_whole))))
  (k_with "exec For Name Call cons nil" => ((k_here; (with_unfolding_all refine' For_invVF ?kF ?k1 ?k2 ?_; (case kF => assumption); (case k1 => exact rfl); (case k2 => exact rfl); k_whole))))
  (k_with "exec For Name Subscript cons nil" => ((k_here; (with_unfolding_all refine' For_invVF ?kF ?k1 ?k2 ?_; (case kF => assumption); (case k1 => exact rfl); (case k2 => exact rfl); k_whole))))
  (k_with "exec For Name Attribute cons nil" => ((k_here; (with_unfolding_all refine' For_invVF ?kF ?k1 ?k2 ?_; (case kF => assumption); (case k1 => exact rfl); (case k2 => exact rfl); k_whole))))
  (k_with "KEEP" => (first | with_reducible assumption | exact DerV.keep (by with_reducible assumption) (Fr.keep (by with_reducible assumption)) | exact Sto.keep (by with_reducible assumption) (Fr.keep (by with_reducible assumption)) | exact Bok.keep (by with_reducible assumption) (Fr.keep (by with_reducible assumption)) | exact TupG.keep (by with_reducible assumption) (Fr.keep (by with_reducible assumption)) | exact ⟨_, by k_extra "GET"⟩ | exact ⟨_, _, _, _, rfl, by k_extra "GET"⟩ | assumption))
  (k_with "call ref" => ((k_here; (with_reducible show wpAny _ _ (call (Value.ref 154) _) _ _ _); refine stopHere ?_)))
  (k_with "call ref" => ((k_here; (with_reducible show wpAny _ _ (call (Value.ref 381) _) _ _ _); refine stopHere ?_)))
  (k_with "call ref" => ((k_here; (with_reducible show wpAny _ _ (call (Value.ref 411) _) _ _ _); refine stopHere ?_)))
  (k_with "call ref" => ((k_here; (with_reducible show wpAny _ _ (call (Value.ref 418) _) _ _ _); refine stopHere ?_)))
  (k_with "call ref" => ((k_here; (with_reducible show wpAny _ _ (call (Value.ref 109) _) _ _ _); refine stopHere ?_)))
  (k_with "call ref" => ((k_here; (with_reducible show wpAny _ _ (call (Value.ref 342) _) _ _ _); refine stopHere ?_)))
  (k_with "call ref" => ((k_here; (with_reducible show wpAny _ _ (call (Value.ref 209) _) _ _ _); refine stopHere ?_)))
  (k_with "call ref" => ((k_here; (with_reducible show wpAny _ _ (call (Value.ref 244) _) _ _ _); refine stopHere ?_)))
  (k_with "call ref" => ((k_here; (with_reducible show wpAny _ _ (call (Value.ref 279) _) _ _ _); refine stopHere ?_)))
  (k_with "call ref" => ((k_here; (with_reducible show wpAny _ _ (call (Value.ref 230) _) _ _ _); refine stopHere ?_)))
  (k_with "call ref" => ((k_here; (with_reducible show wpAny _ _ (call (Value.ref 397) _) _ _ _); refine stopHere ?_)))
  (k_with "call ref" => ((k_here; (with_reducible show wpAny _ _ (call (Value.ref 404) _) _ _ _); refine stopHere ?_)))
  (k_with "SEPL" => (((repeat' (first | assumption | exact sep_nil | refine sep_app ?_ ?_ | refine sep_cons ?_ ?_)); (all_goals first | exact sepOne (by assumption) | exact sepTwo (by assumption) (by assumption) | exact sepFour (by assumption) (by assumption) (by assumption) (by assumption) | ((repeat' (first | exact nmNil | refine nmCons ?_ ?_)); all_goals first | assumption | k_extra "NEC" | exact Ne.symm (by assumption) | exact News.ne (by with_reducible assumption) (by k_mem) (by k_mem) (ne_typ rfl))))))
  (k_with "call ref" => ((k_here; (with_reducible show wpAny _ _ (call (Value.ref 154) _) _ _ _); refine stopHere ?_)))
  (k_with "call ref" => ((k_here; (with_reducible show wpAny _ _ (call (Value.ref 381) _) _ _ _); refine stopHere ?_)))
  (k_with "call ref" => ((k_here; (with_reducible show wpAny _ _ (call (Value.ref 411) _) _ _ _); refine stopHere ?_)))
  (k_with "call ref" => ((k_here; (with_reducible show wpAny _ _ (call (Value.ref 418) _) _ _ _); refine stopHere ?_)))
  (k_with "call ref" => ((k_here; (with_reducible show wpAny _ _ (call (Value.ref 109) _) _ _ _); refine stopHere ?_)))
  (k_with "call ref" => ((k_here; (with_reducible show wpAny _ _ (call (Value.ref 342) _) _ _ _); refine stopHere ?_)))
  (k_with "call ref" => ((k_here; (with_reducible show wpAny _ _ (call (Value.ref 209) _) _ _ _); refine stopHere ?_)))
  (k_with "call ref" => ((k_here; (with_reducible show wpAny _ _ (call (Value.ref 244) _) _ _ _); refine stopHere ?_)))
  (k_with "call ref" => ((k_here; (with_reducible show wpAny _ _ (call (Value.ref 279) _) _ _ _); refine stopHere ?_)))
  (k_with "call ref" => ((k_here; (with_reducible show wpAny _ _ (call (Value.ref 230) _) _ _ _); refine stopHere ?_)))
  (k_with "call ref" => ((k_here; (with_reducible show wpAny _ _ (call (Value.ref 397) _) _ _ _); refine stopHere ?_)))
  (k_with "call ref" => ((k_here; (with_reducible show wpAny _ _ (call (Value.ref 404) _) _ _ _); refine stopHere ?_)))
  (k_with "SEPL" => (((repeat' (first | assumption | exact sep_nil | refine sep_app ?_ ?_ | refine sep_cons ?_ ?_)); (all_goals first | exact sepOne (by assumption) | exact sepTwo (by assumption) (by assumption) | exact sepFour (by assumption) (by assumption) (by assumption) (by assumption) | ((repeat' (first | exact nmNil | refine nmCons ?_ ?_)); all_goals first | assumption | k_extra "NEC" | exact Ne.symm (by assumption) | exact News.ne (by with_reducible assumption) (by k_mem) (by k_mem) (ne_typ rfl))))))
  (k_with "execs cons" => (((with_reducible show wpAny _ _ (execs (Stmt.Expr _ _ :: Stmt.Expr _ _ :: _) _) _ _ _); refine stopHere ?_)))
  (k_with "subscriptTail" => ((k_here; (with_reducible show wpAny _ _ (subscriptTail _ _ (Value.ref _) (Value.int (List.getD _ _ _) _)) _ _ _); rw [getD_one]; k_dflt (refine' item_list ?k1 ?k2 ?k3 ?k4 ?_; (case k1 => is_list); (case k4 => first | assumption | exact rfl); (case k2 => k_extra "OM"); (case k3 => k_extra "OM")))))
  (k_with "subscriptTail" => ((k_here; (with_reducible show wpAny _ _ (subscriptTail _ _ (Value.ref _) (Value.int _ _)) _ _ _); k_dflt (refine' item_list ?k1 ?k2 ?k3 ?k4 ?_; (case k1 => is_list); (case k4 => first | assumption | exact rfl); (case k2 => k_extra "OM"); (case k3 => k_extra "OM")))))
  trivial
theorem law_t3C {U H S TX AN FL FN CL SL KL D st dst bk dbk Tr I PL : Addr} {ws pv : List Value} {wi : List Int} {kk2 uu kk : Nat → Tok} {o1c o2c oI : Obj} {i nP : Nat} {tw : Tok} {ps : List Nat}
    (hws : ws.length ≤ 50) (hI : IntsAre ws wi) (hi6 : Hid (i < 6)) (q1 : D < U) (q2 : U < dbk) (q3 : dbk < bk) (q4 : bk < TX) (q5 : TX < AN) (q6 : AN < FL) (q7 : FL < FN) (q8 : FN < dst) (q9 : dst < st) (q10 : st < H) (q11 : H < S) (q12 : S < CL) (q13 : CL < SL) (q14 : SL < KL) (q15 : L + 1 < D) (q16 : L + 1 + 1 < D)
    (hc1 : o1c.data = .cell (some (.ref CL))) (hc2 : o2c.data = .cell (some (.ref KL))) (cI : oI.cls = .type "range_iterator") {news : List (Addr × Obj)}
    (hJ : JL prog w ws.length U H S TX AN FL FN CL SL KL D st dst bk dbk [(D, listOf ws.toArray 0), (st, instObj 381 dst), (dst, dictOf (stE w.params bk H S Tr kk2 uu) 7), (bk, instObj 154 dbk), (dbk, dictOf (bkE w.params TX AN FL FN kk) 4), (L + 1, o1c), (L + 1 + 1, o2c)] i m news) (hne : ∀ p ∈ news, ¬ p.1 = I) (w0 : 0 ≤ (4 : Int)) (w7 : Hid ((4 : Int) < 7)) (w5 : (4 : Int) < 5 → 0 < i) (hPL : KL < PL) (hPI : ¬ PL = I) (iP : IntsN pv ps) (lP : ps.length = if (4 : Int) < 5 then cntN (4 : Int) else 0) (pI : ∀ p ∈ ps, p < i)
    (F₁ : Fr h₀ L h₁ (over [(Str.ofString "parts", .ref PL), (Str.ofString "way", .int (4 : Int) tw)] m)) (N₁ : News h₀ L h₁ ((PL, listOf pv.toArray nP) :: (I, oI) :: news)) :
    wpAny (model prog w) (ktrTop dp un gd (Str.ofString "law") lawScope L a ccd (cellsFrom (L + 1) lawScope.names []) outer) (execs (forRest 6 3) (envX (Str.ofString "law") lawScope L a ccd (cellsFrom (L + 1) lawScope.names [])))
      (TurnJ h₀ L [(I, oI)] I (JL prog w ws.length U H S TX AN FL FN CL SL KL D st dst bk dbk [(D, listOf ws.toArray 0), (st, instObj 381 dst), (dst, dictOf (stE w.params bk H S Tr kk2 uu) 7), (bk, instObj 154 dbk), (dbk, dictOf (bkE w.params TX AN FL FN kk) 4), (L + 1, o1c), (L + 1 + 1, o2c)] (i + 1)) s₁ Q) (fun _ _ => False) { s₁ with heap := h₁, toks := tk₁ } := by
  generalize hg1 : forRest 6 3 = bd
  generalize hg2 : lawScope = sc
  conv at hg1 => lhs; whnf
  conv at hg2 => lhs; whnf
  subst hg1
  subst hg2
  refine Classical.byContradiction fun nGo => ?_
  obtain ⟨x0, xi, t0, t1, nU, hs, nH, ss, nS, ts, n1, oA, fs, n2, oF, cv, nC, sv, nSL, kv, nK, nt, pt, Tx, Fx, Ha, Sa, ns, ag, rfl, LS⟩ := hJ
  rw [ag.form] at F₁
  dsimp only [List.cons_append, List.nil_append] at N₁
  have q1' := ltN q1
  have q2' := ltN q2
  have q3' := ltN q3
  have q4' := ltN q4
  have q5' := ltN q5
  have q6' := ltN q6
  have q7' := ltN q7
  have q8' := ltN q8
  have q9' := ltN q9
  have q10' := ltN q10
  have q11' := ltN q11
  have q12' := ltN q12
  have q13' := ltN q13
  have q14' := ltN q14
  have q15' := ltN q15
  have q16' := ltN q16
  have hne0 := hne
  obtain ⟨i1, i2, i3, i4, i5, i6, i7, i8, i9, i10, i11, i12, i13, i14, i15, i16, i17, ipt, int_⟩ := neSplit hne
  have hi6' : i < 6 := hi6
  have hLD : @LT.lt Nat _ L D := Nat.lt_of_succ_lt q15'
  have lH := LS.lH
  have lS := LS.lS
  have lH' := LS.cH.length
  have lS' := LS.cS.length
  have pU : ∀ q ∈ pt, q.1 ≠ U := abN (X := U) LS.tp (show @LT.lt Nat _ U KL by first | k_extra "LTC" | omega)
  have pH : ∀ q ∈ pt, q.1 ≠ H := abN (X := H) LS.tp (show @LT.lt Nat _ H KL by first | k_extra "LTC" | omega)
  have pS : ∀ q ∈ pt, q.1 ≠ S := abN (X := S) LS.tp (show @LT.lt Nat _ S KL by first | k_extra "LTC" | omega)
  have fH : ∀ q ∈ nt, q.1 ≠ H := News.neAll N₁ (by k_extra "SUBT") LS.tn (by k_mem) list_ne_tuple
  have fS : ∀ q ∈ nt, q.1 ≠ S := News.neAll N₁ (by k_extra "SUBT") LS.tn (by k_mem) list_ne_tuple
  have hPL' := ltN hPL
  have lC' := LS.cC.length
  have ln4 := LS.ln
  rw [List.length_map] at lC'
  have b1 : cv.length ≤ 100 := len6 lC' ln4 (Nat.le_of_lt hi6')
  have b5 : hs.length ≤ 100 := len36 lH' lH (Nat.le_of_lt hi6')
  have b6 : ss.length ≤ 100 := len1 lS' lS (Nat.le_of_lt hi6')
  have b7 : Ha.length ≤ 100 := len36 rfl lH (Nat.le_of_lt hi6')
  have b8 : Sa.length ≤ 100 := len1 rfl lS (Nat.le_of_lt hi6')
  have hTp : ∀ v c, TupL nt v c → TupG h₁ v c := fun v c t => t.at (News.sub N₁ (by k_extra "SUBT"))
  obtain ⟨p0, rfl⟩ : ∃ p0, ps = [p0] := List.length_eq_one_iff.mp (by rw [lP]; rfl)
  obtain ⟨tp0, rfl⟩ := iP.one
  have hp0 := pI p0 (.head _)
  obtain ⟨y0, hy0⟩ : ∃ y0, ns[p0]? = some y0 := ⟨_, List.getElem?_eq_getElem (by k_extra "OM")⟩
  obtain ⟨v0, hv0, tv0⟩ := LS.cC.get (i := p0) (c := y0.c) (by rw [List.getElem?_map, hy0]; rfl)
  refine nGo ?_; clear nGo
  have hv0' : cv[((p0 : Nat) : Int).toNat]? = some v0 := hv0
  k_extra "STEPS"
  rename_i Q1 _ l9 _ F' N' tq
  have hQI : ¬ Q1 = I := Nat.ne_of_gt l9.2.1
  show wpAny _ _ _ _ _ _
  k_dflt (refine' put_spec (bk := bk) (H := H) ?B ?F ?X ?T ?hk ?hd ?hu ?N ?sep ?hS ?hl ?_; k_extra "CTX2"; (case hS => exact ⟨dst, Tr, kk2, uu, by k_extra "GET", by k_extra "GET"⟩); (case N => k_extra "SPLIT1"); (case hl => k_extra "OM"); (case sep => k_extra "SEPL"))
  intro h' tk' F' N'
  (try dsimp only [List.nil_append, List.cons_append, List.append_nil] at N')
  k_extra "AFTER"
  k_extra "STEPS"
  have hq : TupL ((Q1, tupO (1, (ss.length : Int)) 410 (tk₁ + 1 + 1) 0) :: nt) (.ref Q1) (1, (Sa.length : Int)) := ⟨Q1, 410, tk₁ + 1 + 1, rfl, by rw [← lS']; exact .head _⟩
  rename News _ _ _ _ => N8
  change News _ _ _ ((Q1, tupO (1, (ss.length : Int)) 410 (tk₁ + 1 + 1) 0) :: _) at N8
  show wpAny _ _ _ _ _ _
  refine law_turn4 (PL := PL) (nP := nP) (mv := (.ref Q1)) B X T hd hu hws hI hi6 q1 q2 q3 q4 q5 q6 q7 q8 q9 q10 q11 q12 q13 q14 q15 q16 hc1 hc2 cI ⟨x0, xi, t0, t1, nU, hs, nH, ss ++ [v0], nS + 1, ts, n1, oA, fs, n2, oF, cv, nC, sv, nSL, kv, nK, (Q1, tupO (1, (ss.length : Int)) 410 (tk₁ + 1 + 1) 0) :: nt, pt, Tx, Fx, Ha, Sa ++ [y0.c], ns, (1, (Sa.length : Int)), .cons ?_ (.cons ?_ (.cons ?_ (.cons ?_ .nil))), rfl, ?_⟩ ?_ w0 w7 w5 hPL hPI iP ?_ pI (Mine.Fr.form (by assumption) (.cons rfl (.cons rfl (.cons rfl .nil)))) (News.sub N8 ?_)
  case refine_1 => rfl
  case refine_2 => rfl
  case refine_3 => rfl
  case refine_4 => rfl
  case refine_5 => exact ⟨LS.hx0, LS.hxi, LS.hxl, LS.cH.tmono sub_cons_refl, (LS.cS.tmono sub_cons_refl).app (.cons (tv0.mono sub_cons_refl) .nil), LS.cC.tmono sub_cons_refl, LS.sP, LS.kP, LS.aP, LS.fP.mono fun _ _ t => t.mono sub_cons_refl, LS.bk.succ, by obtain ⟨rep, root, w⟩ := LS.wf; exact w.bound1 hy0, LS.ln, by omega, by simp only [List.length_append, List.length_cons, List.length_nil]; omega, sep_cons rfl LS.tn, LS.tp, hq, LS.fr⟩
  case refine_6 => k_extra "SEPI"
  case refine_7 => exact lP
  case refine_8 => k_extra "SUB"
end
end Part27
section Part28
section
variable {prog : Program} {w : World} {p : Program} {loose : List Str} {mean : ExcName → Option Value} {mg mb : Str → Option Value} {dp un : Nat} {gd : Option (List Code)} {a : Addr} {ccd : Value} {outer : List Env} {A₀ : Around} {base h₀ : Heap} {L : Addr} {m : Str → Option Value} {s₁ : Shared} {h₁ : Heap} {tk₁ : Nat} {Q : Flow → Shared → Prop}
  (B : Below A₀ base outer h₀) (X : (Mine.hd.heap_1 w.params).In h₀) (T : Top p loose mean mg mb h₀) (hd : dp + 60 < recursionLimit) (hu : un + 1200 < cLine)
include B X T hd hu
theorem ln32 : True := by
  k_with_none
  (k_with "LIT0" => (first | with_reducible assumption | ((first | (with_reducible show @LE.le Nat _ (OfNat.ofNat _) (OfNat.ofNat _)) | (with_reducible show @LT.lt Nat _ (OfNat.ofNat _) (OfNat.ofNat _))); exact Nat.le_of_ble_eq_true rfl)))
  (k_with "LIT1" => (first | with_reducible assumption | (with_reducible refine' Nat.lt_of_lt_of_le ?ha ?hb; (case ha => with_reducible assumption); (case hb => k_extra "LIT0")) | (with_reducible refine' Nat.lt_of_le_of_lt ?ha ?hb; (case ha => with_reducible assumption); (case hb => k_extra "LIT0")) | (with_reducible refine' Nat.le_trans ?ha ?hb; (case ha => with_reducible assumption); (case hb => k_extra "LIT0")) | (with_reducible refine' Nat.le_of_lt (Nat.lt_of_lt_of_le ?ha ?hb); (case ha => with_reducible assumption); (case hb => k_extra "LIT0")) | (with_reducible refine' Nat.lt_of_le_of_lt (Nat.le_of_eq ?ha) ?hb; (case ha => with_reducible assumption); (case hb => k_extra "LIT0")) | (with_reducible refine' Nat.le_trans (Nat.le_of_eq ?ha) ?hb; (case ha => with_reducible assumption); (case hb => k_extra "LIT0"))))
  (k_with "LIT2" => (first | with_reducible assumption | (with_reducible refine' Nat.lt_of_lt_of_le ?ha ?hb; (case ha => with_reducible assumption); (case hb => k_extra "LIT1")) | (with_reducible refine' Nat.lt_of_le_of_lt ?ha ?hb; (case ha => with_reducible assumption); (case hb => k_extra "LIT1")) | (with_reducible refine' Nat.le_trans ?ha ?hb; (case ha => with_reducible assumption); (case hb => k_extra "LIT1")) | (with_reducible refine' Nat.le_of_lt (Nat.lt_of_lt_of_le ?ha ?hb); (case ha => with_reducible assumption); (case hb => k_extra "LIT1")) | (with_reducible refine' Nat.lt_of_le_of_lt (Nat.le_of_eq ?ha) ?hb; (case ha => with_reducible assumption); (case hb => k_extra "LIT1")) | (with_reducible refine' Nat.le_trans (Nat.le_of_eq ?ha) ?hb; (case ha => with_reducible assumption); (case hb => k_extra "LIT1"))))
  (k_with "OM" => (first | with_reducible assumption | with_reducible exact Int.natCast_nonneg _ | with_reducible exact Int.ofNat_lt.mpr (by with_reducible assumption) | with_reducible exact i63 (by k_extra "LIT2") | k_extra "LIT2" | omega))
  (k_with "LTC" => (first | with_reducible assumption | (refine' Nat.lt_trans ?ha ?hb; (case ha => with_reducible assumption); (case hb => k_extra "LTC"))))
  (k_with "NEC" => ((refine neN ?_; (try dsimp only); first | (refine' Nat.ne_of_lt ?hc; (case hc => k_extra "LTC")) | (refine' Nat.ne_of_gt ?hc; (case hc => k_extra "LTC")) | omega)))
  (k_with "ROOMN" => (first | (refine' roomN ?ha (Nat.add_assoc _ _ _) ?hb; (case ha => with_reducible assumption); (case hb => exact rfl)) | (refine' roomN ?ha rfl ?hb; (case ha => with_reducible assumption); (case hb => exact rfl)) | (refine' roomN ?ha ((Nat.add_assoc _ _ _).trans (Nat.add_assoc _ _ _)) ?hb; (case ha => with_reducible assumption); (case hb => exact rfl)) | exact Nat.lt_of_le_of_lt (Nat.le_add_right _ _) (by with_reducible assumption)))
  (k_with "MKUNITS" => (first | k_extra "ROOMN" | ktr_units))
  (k_with "MKNE" => (first | k_extra "NEC" | ((try dsimp only); assumption) | ((try dsimp only); exact Ne.symm (by assumption)) | ((try dsimp only); exact News.ne (by with_reducible assumption) (by k_mem) (by k_mem) (ne_typ rfl))))
  (k_with "MKALL" => (first | assumption | exact List.forall_mem_nil _ | (refine' List.forall_mem_cons.mpr ⟨?a, ?b⟩; (case a => k_ne); (case b => k_all))))
  (k_with "GET" => (first | exact Fr.keep (by with_reducible assumption) _ _ (by with_reducible assumption) | exact News.get (by with_reducible assumption) (by k_mem)))
  (k_with "MKINST" => (exact instG (by k_extra "GET") (by k_extra "GET")))
  (k_with "MISLIST" => (exact isListG (by k_extra "GET")))
  (k_with "ENTER" => (((case ks => assumption); (case k1 => assumption); (case k2 => assumption); (case k3 => assumption); (case k4 => assumption); (case kr => assumption); (case k5 => assumption); (case kK => assumption); (case k8 => first | k_extra "ROOMN" | ktr_room); (case k6 => k_is); (case k7 => k_is); (case k9 => exact BindsTo.of_eq rfl); (case kB => exact locs rfl); (case c2 => exact rfl); (case c3 => exact rfl); (case c4 => exact rfl); (case c5 => decide))))
  (k_with "subscriptTail" => ((k_here; (with_reducible show wpAny _ _ (subscriptTail _ _ (Value.ref _) (Value.int _ _)) _ _ _); k_dflt (refine' item_list ?k1 ?k2 ?k3 ?k4 ?_; (case k1 => is_list); (case k4 => assumption); (case k2 => k_extra "OM"); (case k3 => k_extra "OM")))))
  (k_with "subscriptTail" => ((k_here; (with_reducible show wpAny _ _ (subscriptTail _ _ (Value.ref _) (Value.int 1 _)) _ _ _); k_dflt (refine' item_tup1 ?k1 ?_; (case k1 => k_extra "GET")))))
  (k_with "subscriptTail" => ((k_here; (with_reducible show wpAny _ _ (subscriptTail _ _ (Value.ref _) (Value.int 0 _)) _ _ _); k_dflt (refine' item_tup0 ?k1 ?_; (case k1 => k_extra "GET")))))
  (k_with "compareOp Eq ref ref" => ((k_here; (with_reducible show wpAny _ _ (compareOp CmpOp.Eq (Value.ref _) (Value.ref _)) _ _ _); k_dflt (refine' eq_tup ?k1 ?k2 ?k3 ?_; (case k1 => k_extra "GET"); (case k2 => k_extra "GET"); (case k3 => k_units)))))
  (k_with "ite" => (first | (refine ite_pos ?c ?_; (case c => ((try simp only [decide_eq_true_eq, beq_iff_eq, Bool.not_eq_true', decide_eq_false_iff_not, ne_eq]); first | assumption | omega))) | (refine ite_neg ?c ?_; (case c => ((try simp only [decide_eq_true_eq, beq_iff_eq, Bool.not_eq_true', decide_eq_false_iff_not, ne_eq]); first | assumption | omega)))))
  (k_with "execs cons" => (((with_reducible refine wpAny_execs_cons ?_); (try dsimp only); k_fold)))
  (k_with "STEPS" => (((try k_fold); (repeat' (first | walk1 | (k_unfold; (try dsimp only)) | (dsimp only; walk1))); (all_goals (try dsimp only)))))
  (k_with "LV" => (((try dsimp only [WhileStep2]); refine' LeaveM.mk ?k1 ?k2 ?_; (case k1 => with_reducible assumption); (case k2 => with_reducible assumption); intro _ nK; (try dsimp only [List.nil_append, List.cons_append] at nK); revert nK; intro _; (try dsimp only))))
  (k_with "ROOM" => (first | k_extra "ROOMN" | (simp only [recursionLimit, cLine] at *; omega)))
  (k_with "CTX" => (((case B => with_reducible assumption); (case F => with_reducible assumption); (case X => with_reducible assumption); (case T => with_reducible assumption); (case hk => first | exact rfl | assumption); (case hd => k_extra "ROOM"); (case hu => k_extra "ROOM"); (case N => with_reducible assumption))))
  (k_with "KEEP" => (first | with_reducible assumption | exact DerV.keep (by with_reducible assumption) (Fr.keep (by with_reducible assumption)) | exact Sto.keep (by with_reducible assumption) (Fr.keep (by with_reducible assumption)) | exact Bok.keep (by with_reducible assumption) (Fr.keep (by with_reducible assumption)) | exact TupG.keep (by with_reducible assumption) (Fr.keep (by with_reducible assumption)) | exact ⟨_, by k_extra "GET"⟩ | exact ⟨_, _, _, _, rfl, by k_extra "GET"⟩ | assumption))
  (k_with "AFTER" => (((try dsimp only); (try k_sweep))))
  (k_with "call builtin:len" => ((k_here; (with_reducible show wpAny _ _ (call (Value.builtin "len") [Value.ref _]) _ _ _); k_dflt (refine' len_any ?k1 ?k2 ?_; (case k1 => is_list); (case k2 => first | with_reducible assumption | ((try simp only [List.length_append, List.length_cons, List.length_nil, List.length_set]); omega))))))
  (k_with "call builtin:list.append" => ((k_here; (with_reducible show wpAny _ _ (call (Value.builtin _) [Value.ref _, _]) _ _ _); k_dflt (refine' append_any ?k1 ?k2 ?k3 ?_ ?z; (case k1 => k_asm); (case k2 => k_asm); (case k3 => k_upd); (case z => first | with_reducible assumption | ((try simp only [List.length_append, List.length_cons, List.length_nil, List.length_set]); omega)); k_whole); intro _ _ _; (try k_sweep))))
  (k_with "setItem ref int" => ((k_here; (with_reducible show wpAny _ _ (setItem (Value.ref _) (Value.int _ _) _) _ _ _); k_dflt (refine' set_any ?k1 ?k2 ?k3 ?k4 ?k5 ?k6 ?_; (case k1 => k_asm); (case k2 => k_asm); (case k3 => k_upd); (case k4 => k_extra "OM"); (case k5 => first | with_reducible assumption | ((try simp only [List.length_append, List.length_cons, List.length_nil, List.length_set]); omega)); (case k6 => k_extra "OM"); k_whole); intro _ _ _; (try k_sweep))))
  (k_with "CTX2" => (((case B => with_reducible assumption); (case F => with_reducible assumption); (case X => with_reducible assumption); (case T => with_reducible assumption); (case hk => first | exact rfl | assumption); (case hd => k_extra "ROOM"); (case hu => k_extra "ROOM"))))
  (k_with "SEP" => (((repeat' (first | assumption | exact sep_nil | refine sep_app ?_ ?_ | refine sep_cons ?_ ?_)); (all_goals ((repeat' (first | exact nmNil | refine nmCons ?_ ?_)); all_goals first | assumption | k_extra "NEC" | exact Ne.symm (by assumption) | exact News.ne (by with_reducible assumption) (by k_mem) (by k_mem) (ne_typ rfl))))))
  (k_with "SPLIT1" => (first | (refine' News.at0 ?n; (case n => with_reducible assumption)) | (refine' News.at1 ?n; (case n => with_reducible assumption)) | (refine' News.at2 ?n; (case n => with_reducible assumption)) | (refine' News.at3 ?n; (case n => with_reducible assumption)) | (refine' News.at4 ?n; (case n => with_reducible assumption)) | (refine' News.at5 ?n; (case n => with_reducible assumption)) | (refine' News.at6 ?n; (case n => with_reducible assumption))))
  (k_with "pyIter ref" => (refine stopHere ?_))
  (k_with "SEPI" => (((repeat' (first | assumption | exact sep_nil | refine sep_app ?_ ?_ | refine sep_cons ?_ ?_)); (all_goals ((try dsimp only); first | assumption | k_extra "NEC" | exact Ne.symm (by assumption))))))
  (k_with "SUBT" => (first | exact sub_refl | (refine sub_cons ?_; k_extra "SUBT") | (refine sub_right ?_; k_extra "SUBT") | (refine sub_left ?_; k_extra "SUBT")))
  (k_with "MEM" => (first | exact memH | (with_reducible refine List.mem_append_right _ ?_; k_extra "MEM") | (with_reducible refine List.mem_append_left _ ?_; k_extra "MEM") | (with_reducible refine memT ?_; k_extra "MEM")))
  (k_with "SUBT2" => (first | exact sub_refl | (with_reducible refine sub_right ?_; k_extra "SUBT2") | (with_reducible refine sub_left ?_; k_extra "SUBT2") | (with_reducible refine sub_cons ?_; k_extra "SUBT2")))
  (k_with "SUBM" => (((repeat' (first | exact sep_nil | refine sep_app ?_ ?_ | refine sep_cons ?_ ?_)); (all_goals first | k_extra "MEM" | k_extra "SUBT2"))))
  (k_with "SUB" => (((repeat' (first | exact sep_nil | refine sep_app ?_ ?_ | refine sep_cons ?_ ?_)); (all_goals first | k_mem | k_extra "MEM" | k_extra "SUBT2" | (simp only [List.mem_append, List.mem_cons, List.not_mem_nil, true_or, or_true, or_false, false_or]; done) | (intro _ hx9; simp only [hx9, List.mem_append, List.mem_cons, List.not_mem_nil, true_or, or_true, or_false, false_or]; done) | k_extra "SUBT"))))
  (k_with "exec For Name Name cons nil" => ((k_here; (with_unfolding_all refine' For_invVF ?kF ?k1 ?k2 ?_; (case kF => assumption); (case k1 => exact rfl); (case k2 => exact rfl); k_whole))))
  (k_with "exec For Name Call cons nil" => ((k_here; (with_unfolding_all refine' For_invVF ?kF ?k1 ?k2 ?_; (case kF => assumption); (case k1 => exact rfl); (case k2 => exact rfl); k_whole))))
  (k_with "exec For Name Subscript cons nil" => ((k_here; (with_unfolding_all refine' For_invVF ?kF ?k1 ?k2 ?_; (case kF => assumption); (case k1 => exact rfl); (case k2 => exact rfl); k_whole))))
  (k_with "exec For Name Attribute cons nil" => ((k_here; (with_unfolding_all refine' For_invVF ?kF ?k1 ?k2 ?_; (case kF => assumption); (case k1 => exact rfl); (case k2 => exact rfl); k_whole))))
  (k_with "KEEP" => (first | with_reducible assumption | exact DerV.keep (by with_reducible assumption) (Fr.keep (by with_reducible assumption)) | exact Sto.keep (by with_reducible assumption) (Fr.keep (by with_reducible assumption)) | exact Bok.keep (by with_reducible assumption) (Fr.keep (by with_reducible assumption)) | exact TupG.keep (by with_reducible assumption) (Fr.keep (by with_reducible assumption)) | exact ⟨_, by k_extra "GET"⟩ | exact ⟨_, _, _, _, rfl, by k_extra "GET"⟩ | assumption))
  (k_with "call ref" => ((k_here; (with_reducible show wpAny _ _ (call (Value.ref 154) _) _ _ _); refine stopHere ?_)))
  (k_with "call ref" => ((k_here; (with_reducible show wpAny _ _ (call (Value.ref 381) _) _ _ _); refine stopHere ?_)))
  (k_with "call ref" => ((k_here; (with_reducible show wpAny _ _ (call (Value.ref 411) _) _ _ _); refine stopHere ?_)))
  (k_with "call ref" => ((k_here; (with_reducible show wpAny _ _ (call (Value.ref 418) _) _ _ _); refine stopHere ?_)))
  (k_with "call ref" => ((k_here; (with_reducible show wpAny _ _ (call (Value.ref 109) _) _ _ _); refine stopHere ?_)))
  (k_with "call ref" => ((k_here; (with_reducible show wpAny _ _ (call (Value.ref 342) _) _ _ _); refine stopHere ?_)))
  (k_with "call ref" => ((k_here; (with_reducible show wpAny _ _ (call (Value.ref 209) _) _ _ _); refine stopHere ?_)))
  (k_with "call ref" => ((k_here; (with_reducible show wpAny _ _ (call (Value.ref 244) _) _ _ _); refine stopHere ?_)))
  (k_with "call ref" => ((k_here; (with_reducible show wpAny _ _ (call (Value.ref 279) _) _ _ _); refine stopHere ?_)))
  (k_with "call ref" => ((k_here; (with_reducible show wpAny _ _ (call (Value.ref 230) _) _ _ _); refine stopHere ?_)))
  (k_with "call ref" => ((k_here; (with_reducible show wpAny _ _ (call (Value.ref 397) _) _ _ _); refine stopHere ?_)))
  (k_with "call ref" => ((k_here; (with_reducible show wpAny _ _ (call (Value.ref 404) _) _ _ _); refine stopHere ?_)))
  (k_with "SEPL" => (((repeat' (first | assumption | exact sep_nil | refine sep_app ?_ ?_ | refine sep_cons ?_ ?_)); (all_goals first | exact sepOne (by assumption) | exact sepTwo (by assumption) (by assumption) | exact sepFour (by assumption) (by assumption) (by assumption) (by assumption) | ((repeat' (first | exact nmNil | refine nmCons ?_ ?_)); all_goals first | assumption | k_extra "NEC" | exact Ne.symm (by assumption) | exact News.ne (by with_reducible assumption) (by k_mem) (by k_mem) (ne_typ rfl))))))
  (k_with "execs cons" => (((with_reducible show wpAny _ _ (execs (Stmt.Expr _ _ :: Stmt.Expr _ _ :: _) _) _ _ _); refine stopHere ?_)))
  trivial
theorem law_t3D {U H S TX AN FL FN CL SL KL D st dst bk dbk Tr I PL : Addr} {ws pv : List Value} {wi : List Int} {kk2 uu kk : Nat → Tok} {o1c o2c oI : Obj} {i nP : Nat} {tw : Tok} {ps : List Nat}
    (hws : ws.length ≤ 50) (hI : IntsAre ws wi) (hi6 : Hid (i < 6)) (q1 : D < U) (q2 : U < dbk) (q3 : dbk < bk) (q4 : bk < TX) (q5 : TX < AN) (q6 : AN < FL) (q7 : FL < FN) (q8 : FN < dst) (q9 : dst < st) (q10 : st < H) (q11 : H < S) (q12 : S < CL) (q13 : CL < SL) (q14 : SL < KL) (q15 : L + 1 < D) (q16 : L + 1 + 1 < D)
    (hc1 : o1c.data = .cell (some (.ref CL))) (hc2 : o2c.data = .cell (some (.ref KL))) (cI : oI.cls = .type "range_iterator") {news : List (Addr × Obj)}
    (hJ : JL prog w ws.length U H S TX AN FL FN CL SL KL D st dst bk dbk [(D, listOf ws.toArray 0), (st, instObj 381 dst), (dst, dictOf (stE w.params bk H S Tr kk2 uu) 7), (bk, instObj 154 dbk), (dbk, dictOf (bkE w.params TX AN FL FN kk) 4), (L + 1, o1c), (L + 1 + 1, o2c)] i m news) (hne : ∀ p ∈ news, ¬ p.1 = I) (w0 : 0 ≤ (5 : Int)) (w7 : Hid ((5 : Int) < 7)) (w5 : (5 : Int) < 5 → 0 < i) (hPL : KL < PL) (hPI : ¬ PL = I) (iP : IntsN pv ps) (lP : ps.length = if (5 : Int) < 5 then cntN (5 : Int) else 0) (pI : ∀ p ∈ ps, p < i)
    (F₁ : Fr h₀ L h₁ (over [(Str.ofString "parts", .ref PL), (Str.ofString "way", .int (5 : Int) tw)] m)) (N₁ : News h₀ L h₁ ((PL, listOf pv.toArray nP) :: (I, oI) :: news)) :
    wpAny (model prog w) (ktrTop dp un gd (Str.ofString "law") lawScope L a ccd (cellsFrom (L + 1) lawScope.names []) outer) (execs (forRest 6 3) (envX (Str.ofString "law") lawScope L a ccd (cellsFrom (L + 1) lawScope.names [])))
      (TurnJ h₀ L [(I, oI)] I (JL prog w ws.length U H S TX AN FL FN CL SL KL D st dst bk dbk [(D, listOf ws.toArray 0), (st, instObj 381 dst), (dst, dictOf (stE w.params bk H S Tr kk2 uu) 7), (bk, instObj 154 dbk), (dbk, dictOf (bkE w.params TX AN FL FN kk) 4), (L + 1, o1c), (L + 1 + 1, o2c)] (i + 1)) s₁ Q) (fun _ _ => False) { s₁ with heap := h₁, toks := tk₁ } := by
  generalize hg1 : forRest 6 3 = bd
  generalize hg2 : lawScope = sc
  conv at hg1 => lhs; whnf
  conv at hg2 => lhs; whnf
  subst hg1
  subst hg2
  refine Classical.byContradiction fun nGo => ?_
  obtain ⟨x0, xi, t0, t1, nU, hs, nH, ss, nS, ts, n1, oA, fs, n2, oF, cv, nC, sv, nSL, kv, nK, nt, pt, Tx, Fx, Ha, Sa, ns, ag, rfl, LS⟩ := hJ
  rw [ag.form] at F₁
  dsimp only [List.cons_append, List.nil_append] at N₁
  have q1' := ltN q1
  have q2' := ltN q2
  have q3' := ltN q3
  have q4' := ltN q4
  have q5' := ltN q5
  have q6' := ltN q6
  have q7' := ltN q7
  have q8' := ltN q8
  have q9' := ltN q9
  have q10' := ltN q10
  have q11' := ltN q11
  have q12' := ltN q12
  have q13' := ltN q13
  have q14' := ltN q14
  have q15' := ltN q15
  have q16' := ltN q16
  have hne0 := hne
  obtain ⟨i1, i2, i3, i4, i5, i6, i7, i8, i9, i10, i11, i12, i13, i14, i15, i16, i17, ipt, int_⟩ := neSplit hne
  refine nGo ?_; clear nGo
  have hi6' : i < 6 := hi6
  have hLD : @LT.lt Nat _ L D := Nat.lt_of_succ_lt q15'
  have lH := LS.lH
  have lS := LS.lS
  have lH' := LS.cH.length
  have lS' := LS.cS.length
  have pU : ∀ q ∈ pt, q.1 ≠ U := abN (X := U) LS.tp (show @LT.lt Nat _ U KL by first | k_extra "LTC" | omega)
  have pH : ∀ q ∈ pt, q.1 ≠ H := abN (X := H) LS.tp (show @LT.lt Nat _ H KL by first | k_extra "LTC" | omega)
  have pS : ∀ q ∈ pt, q.1 ≠ S := abN (X := S) LS.tp (show @LT.lt Nat _ S KL by first | k_extra "LTC" | omega)
  have fH : ∀ q ∈ nt, q.1 ≠ H := News.neAll N₁ (by k_extra "SUBT") LS.tn (by k_mem) list_ne_tuple
  have fS : ∀ q ∈ nt, q.1 ≠ S := News.neAll N₁ (by k_extra "SUBT") LS.tn (by k_mem) list_ne_tuple
  have hPL' := ltN hPL
  have lC' := LS.cC.length
  have ln4 := LS.ln
  rw [List.length_map] at lC'
  have b1 : cv.length ≤ 100 := len6 lC' ln4 (Nat.le_of_lt hi6')
  have b5 : hs.length ≤ 100 := len36 lH' lH (Nat.le_of_lt hi6')
  have b6 : ss.length ≤ 100 := len1 lS' lS (Nat.le_of_lt hi6')
  have b7 : Ha.length ≤ 100 := len36 rfl lH (Nat.le_of_lt hi6')
  have b8 : Sa.length ≤ 100 := len1 rfl lS (Nat.le_of_lt hi6')
  have hTp : ∀ v c, TupL nt v c → TupG h₁ v c := fun v c t => t.at (News.sub N₁ (by k_extra "SUBT"))
  k_extra "STEPS"
  show wpAny _ _ _ _ _ _
  k_dflt (refine' newvar_spec (bk := bk) (S := S) ?B ?F ?X ?T ?hk ?hd ?hu ?N ?sep ?hS ?hl ?_; k_extra "CTX2"; (case hS => exact ⟨dst, Tr, kk2, uu, by k_extra "GET", by k_extra "GET"⟩); (case N => k_extra "SPLIT1"); (case hl => k_extra "OM"); (case sep => k_extra "SEPL"))
  intro h' tk' a' t3 t4 F' N'
  (try dsimp only [List.nil_append, List.cons_append, List.append_nil] at N')
  have haI : ¬ a' = I := News.ne N' (by k_mem) (by k_mem) (by rw [cI]; exact ne_typ rfl)
  k_extra "AFTER"
  k_extra "STEPS"
  have hq : TupL ((a', tupO (0, (hs.length : Int)) t3 t4 0) :: nt) (.ref a') (0, (Ha.length : Int)) := ⟨a', t3, t4, rfl, by rw [← lH']; exact .head _⟩
  rename News _ _ _ _ => N8
  show wpAny _ _ _ _ _ _
  refine law_turn4 (PL := PL) (nP := nP) (mv := (.ref a')) B X T hd hu hws hI hi6 q1 q2 q3 q4 q5 q6 q7 q8 q9 q10 q11 q12 q13 q14 q15 q16 hc1 hc2 cI ⟨x0, xi, t0, t1, nU, hs ++ [.ref a'], nH + 1, ss, nS, ts, n1, oA, fs, n2, oF, cv, nC, sv, nSL, kv, nK, (a', tupO (0, (hs.length : Int)) t3 t4 0) :: nt, pt, Tx, Fx, Ha ++ [(0, (Ha.length : Int))], Sa, ns, (0, (Ha.length : Int)), .cons ?_ (.cons ?_ (.cons ?_ (.cons ?_ .nil))), rfl, ?_⟩ ?_ w0 w7 w5 hPL hPI iP ?_ pI (Mine.Fr.form (by assumption) (.cons rfl (.cons rfl (.cons rfl .nil)))) (News.sub N8 ?_)
  case refine_1 => rfl
  case refine_2 => rfl
  case refine_3 => rfl
  case refine_4 => rfl
  case refine_5 => exact ⟨LS.hx0, LS.hxi, LS.hxl, (LS.cH.tmono sub_cons_refl).app (.cons hq .nil), LS.cS.tmono sub_cons_refl, LS.cC.tmono sub_cons_refl, LS.sP, LS.kP, LS.aP, LS.fP.mono fun _ _ t => t.mono sub_cons_refl, LS.bk.succ, by obtain ⟨rep, root, w⟩ := LS.wf; rw [List.length_eq_zero_iff.mp (show ps.length = 0 by rw [lP]; rfl)]; exact w.free0, LS.ln, by simp only [List.length_append, List.length_cons, List.length_nil]; omega, by omega, sep_cons rfl LS.tn, LS.tp, hq, LS.fr⟩
  case refine_6 => k_extra "SEPI"
  case refine_7 => exact lP
  case refine_8 => k_extra "SUB"
end
section
variable {prog : Program} {w : World} {p : Program} {loose : List Str} {mean : ExcName → Option Value} {mg mb : Str → Option Value} {dp un : Nat} {gd : Option (List Code)} {a : Addr} {ccd : Value} {outer : List Env} {A₀ : Around} {base h₀ : Heap} {L : Addr} {m : Str → Option Value} {s₁ : Shared} {h₁ : Heap} {tk₁ : Nat} {Q : Flow → Shared → Prop}
  (B : Below A₀ base outer h₀) (X : (Mine.hd.heap_1 w.params).In h₀) (T : Top p loose mean mg mb h₀) (hd : dp + 60 < recursionLimit) (hu : un + 1200 < cLine)
include B X T hd hu
theorem ln33 : True := by
  k_with_none
  (k_with "LIT0" => (first | with_reducible assumption | ((first | (with_reducible show @LE.le Nat _ (OfNat.ofNat _) (OfNat.ofNat _)) | (with_reducible show @LT.lt Nat _ (OfNat.ofNat _) (OfNat.ofNat _))); exact Nat.le_of_ble_eq_true rfl)))
  (k_with "LIT1" => (first | with_reducible assumption | (with_reducible refine' Nat.lt_of_lt_of_le ?ha ?hb; (case ha => with_reducible assumption); (case hb => k_extra "LIT0")) | (with_reducible refine' Nat.lt_of_le_of_lt ?ha ?hb; (case ha => with_reducible assumption); (case hb => k_extra "LIT0")) | (with_reducible refine' Nat.le_trans ?ha ?hb; (case ha => with_reducible assumption); (case hb => k_extra "LIT0")) | (with_reducible refine' Nat.le_of_lt (Nat.lt_of_lt_of_le ?ha ?hb); (case ha => with_reducible assumption); (case hb => k_extra "LIT0")) | (with_reducible refine' Nat.lt_of_le_of_lt (Nat.le_of_eq ?ha) ?hb; (case ha => with_reducible assumption); (case hb => k_extra "LIT0")) | (with_reducible refine' Nat.le_trans (Nat.le_of_eq ?ha) ?hb; (case ha => with_reducible assumption); (case hb => k_extra "LIT0"))))
  (k_with "LIT2" => (first | with_reducible assumption | (with_reducible refine' Nat.lt_of_lt_of_le ?ha ?hb; (case ha => with_reducible assumption); (case hb => k_extra "LIT1")) | (with_reducible refine' Nat.lt_of_le_of_lt ?ha ?hb; (case ha => with_reducible assumption); (case hb => k_extra "LIT1")) | (with_reducible refine' Nat.le_trans ?ha ?hb; (case ha => with_reducible assumption); (case hb => k_extra "LIT1")) | (with_reducible refine' Nat.le_of_lt (Nat.lt_of_lt_of_le ?ha ?hb); (case ha => with_reducible assumption); (case hb => k_extra "LIT1")) | (with_reducible refine' Nat.lt_of_le_of_lt (Nat.le_of_eq ?ha) ?hb; (case ha => with_reducible assumption); (case hb => k_extra "LIT1")) | (with_reducible refine' Nat.le_trans (Nat.le_of_eq ?ha) ?hb; (case ha => with_reducible assumption); (case hb => k_extra "LIT1"))))
  (k_with "OM" => (first | with_reducible assumption | with_reducible exact Int.natCast_nonneg _ | with_reducible exact Int.ofNat_lt.mpr (by with_reducible assumption) | with_reducible exact i63 (by k_extra "LIT2") | k_extra "LIT2" | omega))
  (k_with "LTC" => (first | with_reducible assumption | (refine' Nat.lt_trans ?ha ?hb; (case ha => with_reducible assumption); (case hb => k_extra "LTC"))))
  (k_with "NEC" => ((refine neN ?_; (try dsimp only); first | (refine' Nat.ne_of_lt ?hc; (case hc => k_extra "LTC")) | (refine' Nat.ne_of_gt ?hc; (case hc => k_extra "LTC")) | omega)))
  (k_with "ROOMN" => (first | (refine' roomN ?ha (Nat.add_assoc _ _ _) ?hb; (case ha => with_reducible assumption); (case hb => exact rfl)) | (refine' roomN ?ha rfl ?hb; (case ha => with_reducible assumption); (case hb => exact rfl)) | (refine' roomN ?ha ((Nat.add_assoc _ _ _).trans (Nat.add_assoc _ _ _)) ?hb; (case ha => with_reducible assumption); (case hb => exact rfl)) | exact Nat.lt_of_le_of_lt (Nat.le_add_right _ _) (by with_reducible assumption)))
  (k_with "MKUNITS" => (first | k_extra "ROOMN" | ktr_units))
  (k_with "MKNE" => (first | k_extra "NEC" | ((try dsimp only); assumption) | ((try dsimp only); exact Ne.symm (by assumption)) | ((try dsimp only); exact News.ne (by with_reducible assumption) (by k_mem) (by k_mem) (ne_typ rfl))))
  (k_with "MKALL" => (first | assumption | exact List.forall_mem_nil _ | (refine' List.forall_mem_cons.mpr ⟨?a, ?b⟩; (case a => k_ne); (case b => k_all))))
  (k_with "GET" => (first | exact Fr.keep (by with_reducible assumption) _ _ (by with_reducible assumption) | exact News.get (by with_reducible assumption) (by k_mem)))
  (k_with "MKINST" => (exact instG (by k_extra "GET") (by k_extra "GET")))
  (k_with "MISLIST" => (exact isListG (by k_extra "GET")))
  (k_with "ENTER" => (((case ks => assumption); (case k1 => assumption); (case k2 => assumption); (case k3 => assumption); (case k4 => assumption); (case kr => assumption); (case k5 => assumption); (case kK => assumption); (case k8 => first | k_extra "ROOMN" | ktr_room); (case k6 => k_is); (case k7 => k_is); (case k9 => exact BindsTo.of_eq rfl); (case kB => exact locs rfl); (case c2 => exact rfl); (case c3 => exact rfl); (case c4 => exact rfl); (case c5 => decide))))
  (k_with "subscriptTail" => ((k_here; (with_reducible show wpAny _ _ (subscriptTail _ _ (Value.ref _) (Value.int _ _)) _ _ _); k_dflt (refine' item_list ?k1 ?k2 ?k3 ?k4 ?_; (case k1 => is_list); (case k4 => assumption); (case k2 => k_extra "OM"); (case k3 => k_extra "OM")))))
  (k_with "subscriptTail" => ((k_here; (with_reducible show wpAny _ _ (subscriptTail _ _ (Value.ref _) (Value.int 1 _)) _ _ _); k_dflt (refine' item_tup1 ?k1 ?_; (case k1 => k_extra "GET")))))
  (k_with "subscriptTail" => ((k_here; (with_reducible show wpAny _ _ (subscriptTail _ _ (Value.ref _) (Value.int 0 _)) _ _ _); k_dflt (refine' item_tup0 ?k1 ?_; (case k1 => k_extra "GET")))))
  (k_with "compareOp Eq ref ref" => ((k_here; (with_reducible show wpAny _ _ (compareOp CmpOp.Eq (Value.ref _) (Value.ref _)) _ _ _); k_dflt (refine' eq_tup ?k1 ?k2 ?k3 ?_; (case k1 => k_extra "GET"); (case k2 => k_extra "GET"); (case k3 => k_units)))))
  (k_with "ite" => (first | (refine ite_pos ?c ?_; (case c => ((try simp only [decide_eq_true_eq, beq_iff_eq, Bool.not_eq_true', decide_eq_false_iff_not, ne_eq]); first | assumption | omega))) | (refine ite_neg ?c ?_; (case c => ((try simp only [decide_eq_true_eq, beq_iff_eq, Bool.not_eq_true', decide_eq_false_iff_not, ne_eq]); first | assumption | omega)))))
  (k_with "execs cons" => (((with_reducible refine wpAny_execs_cons ?_); (try dsimp only); k_fold)))
  (k_with "STEPS" => (((try k_fold); (repeat' (first | walk1 | (k_unfold; (try dsimp only)) | (dsimp only; walk1))); (all_goals (try dsimp only)))))
  (k_with "LV" => (((try dsimp only [WhileStep2]); refine' LeaveM.mk ?k1 ?k2 ?_; (case k1 => with_reducible assumption); (case k2 => with_reducible assumption); intro _ nK; (try dsimp only [List.nil_append, List.cons_append] at nK); revert nK; intro _; (try dsimp only))))
  (k_with "ROOM" => (first | k_extra "ROOMN" | (simp only [recursionLimit, cLine] at *; omega)))
  (k_with "CTX" => (((case B => with_reducible assumption); (case F => with_reducible assumption); (case X => with_reducible assumption); (case T => with_reducible assumption); (case hk => first | exact rfl | assumption); (case hd => k_extra "ROOM"); (case hu => k_extra "ROOM"); (case N => with_reducible assumption))))
  (k_with "KEEP" => (first | with_reducible assumption | exact DerV.keep (by with_reducible assumption) (Fr.keep (by with_reducible assumption)) | exact Sto.keep (by with_reducible assumption) (Fr.keep (by with_reducible assumption)) | exact Bok.keep (by with_reducible assumption) (Fr.keep (by with_reducible assumption)) | exact TupG.keep (by with_reducible assumption) (Fr.keep (by with_reducible assumption)) | exact ⟨_, by k_extra "GET"⟩ | exact ⟨_, _, _, _, rfl, by k_extra "GET"⟩ | assumption))
  (k_with "AFTER" => (((try dsimp only); (try k_sweep))))
  (k_with "call builtin:len" => ((k_here; (with_reducible show wpAny _ _ (call (Value.builtin "len") [Value.ref _]) _ _ _); k_dflt (refine' len_any ?k1 ?k2 ?_; (case k1 => is_list); (case k2 => first | with_reducible assumption | ((try simp only [List.length_append, List.length_cons, List.length_nil, List.length_set]); omega))))))
  (k_with "call builtin:list.append" => ((k_here; (with_reducible show wpAny _ _ (call (Value.builtin _) [Value.ref _, _]) _ _ _); k_dflt (refine' append_any ?k1 ?k2 ?k3 ?_ ?z; (case k1 => k_asm); (case k2 => k_asm); (case k3 => k_upd); (case z => first | with_reducible assumption | ((try simp only [List.length_append, List.length_cons, List.length_nil, List.length_set]); omega)); k_whole); intro _ _ _; (try k_sweep))))
  (k_with "setItem ref int" => ((k_here; (with_reducible show wpAny _ _ (setItem (Value.ref _) (Value.int _ _) _) _ _ _); k_dflt (refine' set_any ?k1 ?k2 ?k3 ?k4 ?k5 ?k6 ?_; (case k1 => k_asm); (case k2 => k_asm); (case k3 => k_upd); (case k4 => k_extra "OM"); (case k5 => first | with_reducible assumption | ((try simp only [List.length_append, List.length_cons, List.length_nil, List.length_set]); omega)); (case k6 => k_extra "OM"); k_whole); intro _ _ _; (try k_sweep))))
  (k_with "CTX2" => (((case B => with_reducible assumption); (case F => with_reducible assumption); (case X => with_reducible assumption); (case T => with_reducible assumption); (case hk => first | exact rfl | assumption); (case hd => k_extra "ROOM"); (case hu => k_extra "ROOM"))))
  (k_with "SEP" => (((repeat' (first | assumption | exact sep_nil | refine sep_app ?_ ?_ | refine sep_cons ?_ ?_)); (all_goals ((repeat' (first | exact nmNil | refine nmCons ?_ ?_)); all_goals first | assumption | k_extra "NEC" | exact Ne.symm (by assumption) | exact News.ne (by with_reducible assumption) (by k_mem) (by k_mem) (ne_typ rfl))))))
  (k_with "SPLIT1" => (first | (refine' News.at0 ?n; (case n => with_reducible assumption)) | (refine' News.at1 ?n; (case n => with_reducible assumption)) | (refine' News.at2 ?n; (case n => with_reducible assumption)) | (refine' News.at3 ?n; (case n => with_reducible assumption)) | (refine' News.at4 ?n; (case n => with_reducible assumption)) | (refine' News.at5 ?n; (case n => with_reducible assumption)) | (refine' News.at6 ?n; (case n => with_reducible assumption))))
  (k_with "pyIter ref" => (refine stopHere ?_))
  (k_with "SEPI" => (((repeat' (first | assumption | exact sep_nil | refine sep_app ?_ ?_ | refine sep_cons ?_ ?_)); (all_goals ((try dsimp only); first | assumption | k_extra "NEC" | exact Ne.symm (by assumption))))))
  (k_with "SUBT" => (first | exact sub_refl | (refine sub_cons ?_; k_extra "SUBT") | (refine sub_right ?_; k_extra "SUBT") | (refine sub_left ?_; k_extra "SUBT")))
  (k_with "MEM" => (first | exact memH | (with_reducible refine List.mem_append_right _ ?_; k_extra "MEM") | (with_reducible refine List.mem_append_left _ ?_; k_extra "MEM") | (with_reducible refine memT ?_; k_extra "MEM")))
  (k_with "SUBT2" => (first | exact sub_refl | (with_reducible refine sub_right ?_; k_extra "SUBT2") | (with_reducible refine sub_left ?_; k_extra "SUBT2") | (with_reducible refine sub_cons ?_; k_extra "SUBT2")))
  (k_with "SUBM" => (((repeat' (first | exact sep_nil | refine sep_app ?_ ?_ | refine sep_cons ?_ ?_)); (all_goals first | k_extra "MEM" | k_extra "SUBT2"))))
  (k_with "SUB" => (((repeat' (first | exact sep_nil | refine sep_app ?_ ?_ | refine sep_cons ?_ ?_)); (all_goals first | k_mem | k_extra "MEM" | k_extra "SUBT2" | (simp only [List.mem_append, List.mem_cons, List.not_mem_nil, true_or, or_true, or_false, false_or]; done) | (intro _ hx9; simp only [hx9, List.mem_append, List.mem_cons, List.not_mem_nil, true_or, or_true, or_false, false_or]; done) | k_extra "SUBT"))))
  (k_with "exec For Name Name cons nil" => ((k_here; (with_unfolding_all refine' For_invVF ?kF ?k1 ?k2 ?_; (case kF => assumption); (case k1 => exact rfl); (case k2 => exact rfl); k_whole))))
  (k_with "exec For Name Call cons nil" => ((k_here; (with_unfolding_all refine' For_invVF ?kF ?k1 ?k2 ?_; (case kF => assumption); (case k1 => exact rfl); (case k2 => exact rfl); k_whole))))
  (k_with "exec For Name Subscript cons nil" => ((k_here; (with_unfolding_all refine' For_invVF ?kF ?k1 ?k2 ?_; (case kF => assumption); (case k1 => exact rfl); (case k2 => exact rfl); k_whole))))
  (k_with "exec For Name Attribute cons nil" => ((k_here; (with_unfolding_all refine' For_invVF ?kF ?k1 ?k2 ?_; (case kF => assumption); (case k1 => exact rfl); (case k2 => exact rfl); k_whole))))
  (k_with "KEEP" => (first | with_reducible assumption | exact DerV.keep (by with_reducible assumption) (Fr.keep (by with_reducible assumption)) | exact Sto.keep (by with_reducible assumption) (Fr.keep (by with_reducible assumption)) | exact Bok.keep (by with_reducible assumption) (Fr.keep (by with_reducible assumption)) | exact TupG.keep (by with_reducible assumption) (Fr.keep (by with_reducible assumption)) | exact ⟨_, by k_extra "GET"⟩ | exact ⟨_, _, _, _, rfl, by k_extra "GET"⟩ | assumption))
  (k_with "call ref" => ((k_here; (with_reducible show wpAny _ _ (call (Value.ref 154) _) _ _ _); refine stopHere ?_)))
  (k_with "call ref" => ((k_here; (with_reducible show wpAny _ _ (call (Value.ref 381) _) _ _ _); refine stopHere ?_)))
  (k_with "call ref" => ((k_here; (with_reducible show wpAny _ _ (call (Value.ref 411) _) _ _ _); refine stopHere ?_)))
  (k_with "call ref" => ((k_here; (with_reducible show wpAny _ _ (call (Value.ref 418) _) _ _ _); refine stopHere ?_)))
  (k_with "call ref" => ((k_here; (with_reducible show wpAny _ _ (call (Value.ref 109) _) _ _ _); refine stopHere ?_)))
  (k_with "call ref" => ((k_here; (with_reducible show wpAny _ _ (call (Value.ref 342) _) _ _ _); refine stopHere ?_)))
  (k_with "call ref" => ((k_here; (with_reducible show wpAny _ _ (call (Value.ref 209) _) _ _ _); refine stopHere ?_)))
  (k_with "call ref" => ((k_here; (with_reducible show wpAny _ _ (call (Value.ref 244) _) _ _ _); refine stopHere ?_)))
  (k_with "call ref" => ((k_here; (with_reducible show wpAny _ _ (call (Value.ref 279) _) _ _ _); refine stopHere ?_)))
  (k_with "call ref" => ((k_here; (with_reducible show wpAny _ _ (call (Value.ref 230) _) _ _ _); refine stopHere ?_)))
  (k_with "call ref" => ((k_here; (with_reducible show wpAny _ _ (call (Value.ref 397) _) _ _ _); refine stopHere ?_)))
  (k_with "call ref" => ((k_here; (with_reducible show wpAny _ _ (call (Value.ref 404) _) _ _ _); refine stopHere ?_)))
  (k_with "SEPL" => (((repeat' (first | assumption | exact sep_nil | refine sep_app ?_ ?_ | refine sep_cons ?_ ?_)); (all_goals first | exact sepOne (by assumption) | exact sepTwo (by assumption) (by assumption) | exact sepFour (by assumption) (by assumption) (by assumption) (by assumption) | ((repeat' (first | exact nmNil | refine nmCons ?_ ?_)); all_goals first | assumption | k_extra "NEC" | exact Ne.symm (by assumption) | exact News.ne (by with_reducible assumption) (by k_mem) (by k_mem) (ne_typ rfl))))))
  (k_with "call ref" => ((k_here; (with_reducible show wpAny _ _ (call (Value.ref 154) _) _ _ _); refine stopHere ?_)))
  (k_with "call ref" => ((k_here; (with_reducible show wpAny _ _ (call (Value.ref 381) _) _ _ _); refine stopHere ?_)))
  (k_with "call ref" => ((k_here; (with_reducible show wpAny _ _ (call (Value.ref 411) _) _ _ _); refine stopHere ?_)))
  (k_with "call ref" => ((k_here; (with_reducible show wpAny _ _ (call (Value.ref 418) _) _ _ _); refine stopHere ?_)))
  (k_with "call ref" => ((k_here; (with_reducible show wpAny _ _ (call (Value.ref 109) _) _ _ _); refine stopHere ?_)))
  (k_with "call ref" => ((k_here; (with_reducible show wpAny _ _ (call (Value.ref 342) _) _ _ _); refine stopHere ?_)))
  (k_with "call ref" => ((k_here; (with_reducible show wpAny _ _ (call (Value.ref 209) _) _ _ _); refine stopHere ?_)))
  (k_with "call ref" => ((k_here; (with_reducible show wpAny _ _ (call (Value.ref 244) _) _ _ _); refine stopHere ?_)))
  (k_with "call ref" => ((k_here; (with_reducible show wpAny _ _ (call (Value.ref 279) _) _ _ _); refine stopHere ?_)))
  (k_with "call ref" => ((k_here; (with_reducible show wpAny _ _ (call (Value.ref 230) _) _ _ _); refine stopHere ?_)))
  (k_with "call ref" => ((k_here; (with_reducible show wpAny _ _ (call (Value.ref 397) _) _ _ _); refine stopHere ?_)))
  (k_with "call ref" => ((k_here; (with_reducible show wpAny _ _ (call (Value.ref 404) _) _ _ _); refine stopHere ?_)))
  (k_with "SEPL" => (((repeat' (first | assumption | exact sep_nil | refine sep_app ?_ ?_ | refine sep_cons ?_ ?_)); (all_goals first | exact sepOne (by assumption) | exact sepTwo (by assumption) (by assumption) | exact sepFour (by assumption) (by assumption) (by assumption) (by assumption) | ((repeat' (first | exact nmNil | refine nmCons ?_ ?_)); all_goals first | assumption | k_extra "NEC" | exact Ne.symm (by assumption) | exact News.ne (by with_reducible assumption) (by k_mem) (by k_mem) (ne_typ rfl))))))
  (k_with "execs cons" => (((with_reducible show wpAny _ _ (execs (Stmt.Expr _ _ :: Stmt.Expr _ _ :: _) _) _ _ _); refine stopHere ?_)))
  trivial
theorem law_t3E {U H S TX AN FL FN CL SL KL D st dst bk dbk Tr I PL : Addr} {ws pv : List Value} {wi : List Int} {kk2 uu kk : Nat → Tok} {o1c o2c oI : Obj} {i nP : Nat} {tw : Tok} {ps : List Nat}
    (hws : ws.length ≤ 50) (hI : IntsAre ws wi) (hi6 : Hid (i < 6)) (q1 : D < U) (q2 : U < dbk) (q3 : dbk < bk) (q4 : bk < TX) (q5 : TX < AN) (q6 : AN < FL) (q7 : FL < FN) (q8 : FN < dst) (q9 : dst < st) (q10 : st < H) (q11 : H < S) (q12 : S < CL) (q13 : CL < SL) (q14 : SL < KL) (q15 : L + 1 < D) (q16 : L + 1 + 1 < D)
    (hc1 : o1c.data = .cell (some (.ref CL))) (hc2 : o2c.data = .cell (some (.ref KL))) (cI : oI.cls = .type "range_iterator") {news : List (Addr × Obj)}
    (hJ : JL prog w ws.length U H S TX AN FL FN CL SL KL D st dst bk dbk [(D, listOf ws.toArray 0), (st, instObj 381 dst), (dst, dictOf (stE w.params bk H S Tr kk2 uu) 7), (bk, instObj 154 dbk), (dbk, dictOf (bkE w.params TX AN FL FN kk) 4), (L + 1, o1c), (L + 1 + 1, o2c)] i m news) (hne : ∀ p ∈ news, ¬ p.1 = I) (w0 : 0 ≤ (6 : Int)) (w7 : Hid ((6 : Int) < 7)) (w5 : (6 : Int) < 5 → 0 < i) (hPL : KL < PL) (hPI : ¬ PL = I) (iP : IntsN pv ps) (lP : ps.length = if (6 : Int) < 5 then cntN (6 : Int) else 0) (pI : ∀ p ∈ ps, p < i)
    (F₁ : Fr h₀ L h₁ (over [(Str.ofString "parts", .ref PL), (Str.ofString "way", .int (6 : Int) tw)] m)) (N₁ : News h₀ L h₁ ((PL, listOf pv.toArray nP) :: (I, oI) :: news)) :
    wpAny (model prog w) (ktrTop dp un gd (Str.ofString "law") lawScope L a ccd (cellsFrom (L + 1) lawScope.names []) outer) (execs (forRest 6 3) (envX (Str.ofString "law") lawScope L a ccd (cellsFrom (L + 1) lawScope.names [])))
      (TurnJ h₀ L [(I, oI)] I (JL prog w ws.length U H S TX AN FL FN CL SL KL D st dst bk dbk [(D, listOf ws.toArray 0), (st, instObj 381 dst), (dst, dictOf (stE w.params bk H S Tr kk2 uu) 7), (bk, instObj 154 dbk), (dbk, dictOf (bkE w.params TX AN FL FN kk) 4), (L + 1, o1c), (L + 1 + 1, o2c)] (i + 1)) s₁ Q) (fun _ _ => False) { s₁ with heap := h₁, toks := tk₁ } := by
  generalize hg1 : forRest 6 3 = bd
  generalize hg2 : lawScope = sc
  conv at hg1 => lhs; whnf
  conv at hg2 => lhs; whnf
  subst hg1
  subst hg2
  refine Classical.byContradiction fun nGo => ?_
  obtain ⟨x0, xi, t0, t1, nU, hs, nH, ss, nS, ts, n1, oA, fs, n2, oF, cv, nC, sv, nSL, kv, nK, nt, pt, Tx, Fx, Ha, Sa, ns, ag, rfl, LS⟩ := hJ
  rw [ag.form] at F₁
  dsimp only [List.cons_append, List.nil_append] at N₁
  have q1' := ltN q1
  have q2' := ltN q2
  have q3' := ltN q3
  have q4' := ltN q4
  have q5' := ltN q5
  have q6' := ltN q6
  have q7' := ltN q7
  have q8' := ltN q8
  have q9' := ltN q9
  have q10' := ltN q10
  have q11' := ltN q11
  have q12' := ltN q12
  have q13' := ltN q13
  have q14' := ltN q14
  have q15' := ltN q15
  have q16' := ltN q16
  have hne0 := hne
  obtain ⟨i1, i2, i3, i4, i5, i6, i7, i8, i9, i10, i11, i12, i13, i14, i15, i16, i17, ipt, int_⟩ := neSplit hne
  refine nGo ?_; clear nGo
  have hi6' : i < 6 := hi6
  have hLD : @LT.lt Nat _ L D := Nat.lt_of_succ_lt q15'
  have lH := LS.lH
  have lS := LS.lS
  have lH' := LS.cH.length
  have lS' := LS.cS.length
  have pU : ∀ q ∈ pt, q.1 ≠ U := abN (X := U) LS.tp (show @LT.lt Nat _ U KL by first | k_extra "LTC" | omega)
  have pH : ∀ q ∈ pt, q.1 ≠ H := abN (X := H) LS.tp (show @LT.lt Nat _ H KL by first | k_extra "LTC" | omega)
  have pS : ∀ q ∈ pt, q.1 ≠ S := abN (X := S) LS.tp (show @LT.lt Nat _ S KL by first | k_extra "LTC" | omega)
  have fH : ∀ q ∈ nt, q.1 ≠ H := News.neAll N₁ (by k_extra "SUBT") LS.tn (by k_mem) list_ne_tuple
  have fS : ∀ q ∈ nt, q.1 ≠ S := News.neAll N₁ (by k_extra "SUBT") LS.tn (by k_mem) list_ne_tuple
  have hPL' := ltN hPL
  have lC' := LS.cC.length
  have ln4 := LS.ln
  rw [List.length_map] at lC'
  have b1 : cv.length ≤ 100 := len6 lC' ln4 (Nat.le_of_lt hi6')
  have b5 : hs.length ≤ 100 := len36 lH' lH (Nat.le_of_lt hi6')
  have b6 : ss.length ≤ 100 := len1 lS' lS (Nat.le_of_lt hi6')
  have b7 : Ha.length ≤ 100 := len36 rfl lH (Nat.le_of_lt hi6')
  have b8 : Sa.length ≤ 100 := len1 rfl lS (Nat.le_of_lt hi6')
  have hTp : ∀ v c, TupL nt v c → TupG h₁ v c := fun v c t => t.at (News.sub N₁ (by k_extra "SUBT"))
  k_extra "STEPS"
  rename_i Q1 _ l9 _ F' N'
  have hQI : ¬ Q1 = I := Nat.ne_of_gt l9.2.1
  show wpAny _ _ _ _ _ _
  k_dflt (refine' put_spec (bk := bk) (H := H) ?B ?F ?X ?T ?hk ?hd ?hu ?N ?sep ?hS ?hl ?_; k_extra "CTX2"; (case hS => exact ⟨dst, Tr, kk2, uu, by k_extra "GET", by k_extra "GET"⟩); (case N => k_extra "SPLIT1"); (case hl => k_extra "OM"); (case sep => k_extra "SEPL"))
  intro h' tk' F' N'
  (try dsimp only [List.nil_append, List.cons_append, List.append_nil] at N')
  k_extra "AFTER"
  k_extra "STEPS"
  have hq : TupL ((Q1, tupO (1, (ss.length : Int)) 410 (tk₁ + 1 + 1) 0) :: nt) (.ref Q1) (1, (Sa.length : Int)) := ⟨Q1, 410, tk₁ + 1 + 1, rfl, by rw [← lS']; exact .head _⟩
  rename News _ _ _ _ => N8
  change News _ _ _ ((Q1, tupO (1, (ss.length : Int)) 410 (tk₁ + 1 + 1) 0) :: _) at N8
  show wpAny _ _ _ _ _ _
  refine law_turn4 (PL := PL) (nP := nP) (mv := (.ref Q1)) B X T hd hu hws hI hi6 q1 q2 q3 q4 q5 q6 q7 q8 q9 q10 q11 q12 q13 q14 q15 q16 hc1 hc2 cI ⟨x0, xi, t0, t1, nU, hs, nH, ss ++ [.ref Q1], nS + 1, ts, n1, oA, fs, n2, oF, cv, nC, sv, nSL, kv, nK, (Q1, tupO (1, (ss.length : Int)) 410 (tk₁ + 1 + 1) 0) :: nt, pt, Tx, Fx, Ha, Sa ++ [(1, (Sa.length : Int))], ns, (1, (Sa.length : Int)), .cons ?_ (.cons ?_ (.cons ?_ (.cons ?_ .nil))), rfl, ?_⟩ ?_ w0 w7 w5 hPL hPI iP ?_ pI (Mine.Fr.form (by assumption) (.cons rfl (.cons rfl (.cons rfl .nil)))) (News.sub N8 ?_)
  case refine_1 => rfl
  case refine_2 => rfl
  case refine_3 => rfl
  case refine_4 => rfl
  case refine_5 => exact ⟨LS.hx0, LS.hxi, LS.hxl, LS.cH.tmono sub_cons_refl, (LS.cS.tmono sub_cons_refl).app (.cons hq .nil), LS.cC.tmono sub_cons_refl, LS.sP, LS.kP, LS.aP, LS.fP.mono fun _ _ t => t.mono sub_cons_refl, LS.bk.succ, by obtain ⟨rep, root, w⟩ := LS.wf; rw [List.length_eq_zero_iff.mp (show ps.length = 0 by rw [lP]; rfl)]; exact w.free1, LS.ln, by omega, by simp only [List.length_append, List.length_cons, List.length_nil]; omega, sep_cons rfl LS.tn, LS.tp, hq, LS.fr⟩
  case refine_6 => k_extra "SEPI"
  case refine_7 => exact lP
  case refine_8 => k_extra "SUB"
end
end Part28
section Part29
section
variable {prog : Program} {w : World} {p : Program} {loose : List Str} {mean : ExcName → Option Value} {mg mb : Str → Option Value} {dp un : Nat} {gd : Option (List Code)} {a : Addr} {ccd : Value} {outer : List Env} {A₀ : Around} {base h₀ : Heap} {L : Addr} {m : Str → Option Value} {s₁ : Shared} {h₁ : Heap} {tk₁ : Nat} {Q : Flow → Shared → Prop}
  (B : Below A₀ base outer h₀) (X : (Mine.hd.heap_1 w.params).In h₀) (T : Top p loose mean mg mb h₀) (hd : dp + 60 < recursionLimit) (hu : un + 1200 < cLine)
include B X T hd hu
theorem ln34 : True := by
  k_with_none
  (k_with "LIT0" => (first | with_reducible assumption | ((first | (with_reducible show @LE.le Nat _ (OfNat.ofNat _) (OfNat.ofNat _)) | (with_reducible show @LT.lt Nat _ (OfNat.ofNat _) (OfNat.ofNat _))); exact Nat.le_of_ble_eq_true rfl)))
  (k_with "LIT1" => (first | with_reducible assumption | (with_reducible refine' Nat.lt_of_lt_of_le ?ha ?hb; (case ha => with_reducible assumption); (case hb => k_extra "LIT0")) | (with_reducible refine' Nat.lt_of_le_of_lt ?ha ?hb; (case ha => with_reducible assumption); (case hb => k_extra "LIT0")) | (with_reducible refine' Nat.le_trans ?ha ?hb; (case ha => with_reducible assumption); (case hb => k_extra "LIT0")) | (with_reducible refine' Nat.le_of_lt (Nat.lt_of_lt_of_le ?ha ?hb); (case ha => with_reducible assumption); (case hb => k_extra "LIT0")) | (with_reducible refine' Nat.lt_of_le_of_lt (Nat.le_of_eq ?ha) ?hb; (case ha => with_reducible assumption); (case hb => k_extra "LIT0")) | (with_reducible refine' Nat.le_trans (Nat.le_of_eq ?ha) ?hb; (case ha => with_reducible assumption); (case hb => k_extra "LIT0"))))
  (k_with "LIT2" => (first | with_reducible assumption | (with_reducible refine' Nat.lt_of_lt_of_le ?ha ?hb; (case ha => with_reducible assumption); (case hb => k_extra "LIT1")) | (with_reducible refine' Nat.lt_of_le_of_lt ?ha ?hb; (case ha => with_reducible assumption); (case hb => k_extra "LIT1")) | (with_reducible refine' Nat.le_trans ?ha ?hb; (case ha => with_reducible assumption); (case hb => k_extra "LIT1")) | (with_reducible refine' Nat.le_of_lt (Nat.lt_of_lt_of_le ?ha ?hb); (case ha => with_reducible assumption); (case hb => k_extra "LIT1")) | (with_reducible refine' Nat.lt_of_le_of_lt (Nat.le_of_eq ?ha) ?hb; (case ha => with_reducible assumption); (case hb => k_extra "LIT1")) | (with_reducible refine' Nat.le_trans (Nat.le_of_eq ?ha) ?hb; (case ha => with_reducible assumption); (case hb => k_extra "LIT1"))))
  (k_with "OM" => (first | with_reducible assumption | with_reducible exact Int.natCast_nonneg _ | with_reducible exact Int.ofNat_lt.mpr (by with_reducible assumption) | with_reducible exact i63 (by k_extra "LIT2") | k_extra "LIT2" | omega))
  (k_with "LTC" => (first | with_reducible assumption | (refine' Nat.lt_trans ?ha ?hb; (case ha => with_reducible assumption); (case hb => k_extra "LTC"))))
  (k_with "NEC" => ((refine neN ?_; (try dsimp only); first | (refine' Nat.ne_of_lt ?hc; (case hc => k_extra "LTC")) | (refine' Nat.ne_of_gt ?hc; (case hc => k_extra "LTC")) | omega)))
  (k_with "ROOMN" => (first | (refine' roomN ?ha (Nat.add_assoc _ _ _) ?hb; (case ha => with_reducible assumption); (case hb => exact rfl)) | (refine' roomN ?ha rfl ?hb; (case ha => with_reducible assumption); (case hb => exact rfl)) | (refine' roomN ?ha ((Nat.add_assoc _ _ _).trans (Nat.add_assoc _ _ _)) ?hb; (case ha => with_reducible assumption); (case hb => exact rfl)) | exact Nat.lt_of_le_of_lt (Nat.le_add_right _ _) (by with_reducible assumption)))
  (k_with "MKUNITS" => (first | k_extra "ROOMN" | ktr_units))
  (k_with "MKNE" => (first | k_extra "NEC" | ((try dsimp only); assumption) | ((try dsimp only); exact Ne.symm (by assumption)) | ((try dsimp only); exact News.ne (by with_reducible assumption) (by k_mem) (by k_mem) (ne_typ rfl))))
  (k_with "MKALL" => (first | assumption | exact List.forall_mem_nil _ | (refine' List.forall_mem_cons.mpr ⟨?a, ?b⟩; (case a => k_ne); (case b => k_all))))
  (k_with "GET" => (first | exact Fr.keep (by with_reducible assumption) _ _ (by with_reducible assumption) | exact News.get (by with_reducible assumption) (by k_mem)))
  (k_with "MKINST" => (exact instG (by k_extra "GET") (by k_extra "GET")))
  (k_with "MISLIST" => (exact isListG (by k_extra "GET")))
  (k_with "ENTER" => (((case ks => assumption); (case k1 => assumption); (case k2 => assumption); (case k3 => assumption); (case k4 => assumption); (case kr => assumption); (case k5 => assumption); (case kK => assumption); (case k8 => first | k_extra "ROOMN" | ktr_room); (case k6 => k_is); (case k7 => k_is); (case k9 => exact BindsTo.of_eq rfl); (case kB => exact locs rfl); (case c2 => exact rfl); (case c3 => exact rfl); (case c4 => exact rfl); (case c5 => decide))))
  (k_with "subscriptTail" => ((k_here; (with_reducible show wpAny _ _ (subscriptTail _ _ (Value.ref _) (Value.int _ _)) _ _ _); k_dflt (refine' item_list ?k1 ?k2 ?k3 ?k4 ?_; (case k1 => is_list); (case k4 => assumption); (case k2 => k_extra "OM"); (case k3 => k_extra "OM")))))
  (k_with "subscriptTail" => ((k_here; (with_reducible show wpAny _ _ (subscriptTail _ _ (Value.ref _) (Value.int 1 _)) _ _ _); k_dflt (refine' item_tup1 ?k1 ?_; (case k1 => k_extra "GET")))))
  (k_with "subscriptTail" => ((k_here; (with_reducible show wpAny _ _ (subscriptTail _ _ (Value.ref _) (Value.int 0 _)) _ _ _); k_dflt (refine' item_tup0 ?k1 ?_; (case k1 => k_extra "GET")))))
  (k_with "compareOp Eq ref ref" => ((k_here; (with_reducible show wpAny _ _ (compareOp CmpOp.Eq (Value.ref _) (Value.ref _)) _ _ _); k_dflt (refine' eq_tup ?k1 ?k2 ?k3 ?_; (case k1 => k_extra "GET"); (case k2 => k_extra "GET"); (case k3 => k_units)))))
  (k_with "ite" => (first | (refine ite_pos ?c ?_; (case c => ((try simp only [decide_eq_true_eq, beq_iff_eq, Bool.not_eq_true', decide_eq_false_iff_not, ne_eq]); first | assumption | omega))) | (refine ite_neg ?c ?_; (case c => ((try simp only [decide_eq_true_eq, beq_iff_eq, Bool.not_eq_true', decide_eq_false_iff_not, ne_eq]); first | assumption | omega)))))
  (k_with "execs cons" => (((with_reducible refine wpAny_execs_cons ?_); (try dsimp only); k_fold)))
  (k_with "STEPS" => (((try k_fold); (repeat' (first | walk1 | (k_unfold; (try dsimp only)) | (dsimp only; walk1))); (all_goals (try dsimp only)))))
  (k_with "LV" => (((try dsimp only [WhileStep2]); refine' LeaveM.mk ?k1 ?k2 ?_; (case k1 => with_reducible assumption); (case k2 => with_reducible assumption); intro _ nK; (try dsimp only [List.nil_append, List.cons_append] at nK); revert nK; intro _; (try dsimp only))))
  (k_with "ROOM" => (first | k_extra "ROOMN" | (simp only [recursionLimit, cLine] at *; omega)))
  (k_with "CTX" => (((case B => with_reducible assumption); (case F => with_reducible assumption); (case X => with_reducible assumption); (case T => with_reducible assumption); (case hk => first | exact rfl | assumption); (case hd => k_extra "ROOM"); (case hu => k_extra "ROOM"); (case N => with_reducible assumption))))
  (k_with "KEEP" => (first | with_reducible assumption | exact DerV.keep (by with_reducible assumption) (Fr.keep (by with_reducible assumption)) | exact Sto.keep (by with_reducible assumption) (Fr.keep (by with_reducible assumption)) | exact Bok.keep (by with_reducible assumption) (Fr.keep (by with_reducible assumption)) | exact TupG.keep (by with_reducible assumption) (Fr.keep (by with_reducible assumption)) | exact ⟨_, by k_extra "GET"⟩ | exact ⟨_, _, _, _, rfl, by k_extra "GET"⟩ | assumption))
  (k_with "AFTER" => (((try dsimp only); (try k_sweep))))
  (k_with "call builtin:len" => ((k_here; (with_reducible show wpAny _ _ (call (Value.builtin "len") [Value.ref _]) _ _ _); k_dflt (refine' len_any ?k1 ?k2 ?_; (case k1 => is_list); (case k2 => first | with_reducible assumption | ((try simp only [List.length_append, List.length_cons, List.length_nil, List.length_set]); omega))))))
  (k_with "call builtin:list.append" => ((k_here; (with_reducible show wpAny _ _ (call (Value.builtin _) [Value.ref _, _]) _ _ _); k_dflt (refine' append_any ?k1 ?k2 ?k3 ?_ ?z; (case k1 => k_asm); (case k2 => k_asm); (case k3 => k_upd); (case z => first | with_reducible assumption | ((try simp only [List.length_append, List.length_cons, List.length_nil, List.length_set]); omega)); k_whole); intro _ _ _; (try k_sweep))))
  (k_with "setItem ref int" => ((k_here; (with_reducible show wpAny _ _ (setItem (Value.ref _) (Value.int _ _) _) _ _ _); k_dflt (refine' set_any ?k1 ?k2 ?k3 ?k4 ?k5 ?k6 ?_; (case k1 => k_asm); (case k2 => k_asm); (case k3 => k_upd); (case k4 => k_extra "OM"); (case k5 => first | with_reducible assumption | ((try simp only [List.length_append, List.length_cons, List.length_nil, List.length_set]); omega)); (case k6 => k_extra "OM"); k_whole); intro _ _ _; (try k_sweep))))
  (k_with "CTX2" => (((case B => with_reducible assumption); (case F => with_reducible assumption); (case X => with_reducible assumption); (case T => with_reducible assumption); (case hk => first | exact rfl | assumption); (case hd => k_extra "ROOM"); (case hu => k_extra "ROOM"))))
  (k_with "SEP" => (((repeat' (first | assumption | exact sep_nil | refine sep_app ?_ ?_ | refine sep_cons ?_ ?_)); (all_goals ((repeat' (first | exact nmNil | refine nmCons ?_ ?_)); all_goals first | assumption | k_extra "NEC" | exact Ne.symm (by assumption) | exact News.ne (by with_reducible assumption) (by k_mem) (by k_mem) (ne_typ rfl))))))
  (k_with "SPLIT1" => (first | (refine' News.at0 ?n; (case n => with_reducible assumption)) | (refine' News.at1 ?n; (case n => with_reducible assumption)) | (refine' News.at2 ?n; (case n => with_reducible assumption)) | (refine' News.at3 ?n; (case n => with_reducible assumption)) | (refine' News.at4 ?n; (case n => with_reducible assumption)) | (refine' News.at5 ?n; (case n => with_reducible assumption)) | (refine' News.at6 ?n; (case n => with_reducible assumption))))
  (k_with "pyIter ref" => (refine stopHere ?_))
  (k_with "SEPI" => (((repeat' (first | assumption | exact sep_nil | refine sep_app ?_ ?_ | refine sep_cons ?_ ?_)); (all_goals ((try dsimp only); first | assumption | k_extra "NEC" | exact Ne.symm (by assumption))))))
  (k_with "SUBT" => (first | exact sub_refl | (refine sub_cons ?_; k_extra "SUBT") | (refine sub_right ?_; k_extra "SUBT") | (refine sub_left ?_; k_extra "SUBT")))
  (k_with "MEM" => (first | exact memH | (with_reducible refine List.mem_append_right _ ?_; k_extra "MEM") | (with_reducible refine List.mem_append_left _ ?_; k_extra "MEM") | (with_reducible refine memT ?_; k_extra "MEM")))
  (k_with "SUBT2" => (first | exact sub_refl | (with_reducible refine sub_right ?_; k_extra "SUBT2") | (with_reducible refine sub_left ?_; k_extra "SUBT2") | (with_reducible refine sub_cons ?_; k_extra "SUBT2")))
  (k_with "SUBM" => (((repeat' (first | exact sep_nil | refine sep_app ?_ ?_ | refine sep_cons ?_ ?_)); (all_goals first | k_extra "MEM" | k_extra "SUBT2"))))
  (k_with "SUB" => (((repeat' (first | exact sep_nil | refine sep_app ?_ ?_ | refine sep_cons ?_ ?_)); (all_goals first | k_mem | k_extra "MEM" | k_extra "SUBT2" | (simp only [List.mem_append, List.mem_cons, List.not_mem_nil, true_or, or_true, or_false, false_or]; done) | (intro _ hx9; simp only [hx9, List.mem_append, List.mem_cons, List.not_mem_nil, true_or, or_true, or_false, false_or]; done) | k_extra "SUBT"))))
  (k_with "exec For Name Name cons nil" => ((k_here; (with_unfolding_all refine' For_invVF ?kF ?k1 ?k2 ?_; (case kF => assumption); (case k1 => exact rfl); (case k2 => exact rfl); k_whole))))
  (k_with "exec For Name Call cons nil" => ((k_here; (with_unfolding_all refine' For_invVF ?kF ?k1 ?k2 ?_; (case kF => assumption); (case k1 => exact rfl); (case k2 => exact rfl); k_whole))))
  (k_with "exec For Name Subscript cons nil" => ((k_here; (with_unfolding_all refine' For_invVF ?kF ?k1 ?k2 ?_; (case kF => assumption); (case k1 => exact rfl); (case k2 => exact rfl); k_whole))))
  (k_with "exec For Name Attribute cons nil" => ((k_here; (with_unfolding_all refine' For_invVF ?kF ?k1 ?k2 ?_; (case kF => assumption); (case k1 => exact rfl); (case k2 => exact rfl); k_whole))))
  (k_with "KEEP" => (first | with_reducible assumption | exact DerV.keep (by with_reducible assumption) (Fr.keep (by with_reducible assumption)) | exact Sto.keep (by with_reducible assumption) (Fr.keep (by with_reducible assumption)) | exact Bok.keep (by with_reducible assumption) (Fr.keep (by with_reducible assumption)) | exact TupG.keep (by with_reducible assumption) (Fr.keep (by with_reducible assumption)) | exact ⟨_, by k_extra "GET"⟩ | exact ⟨_, _, _, _, rfl, by k_extra "GET"⟩ | assumption))
  (k_with "call ref" => ((k_here; (with_reducible show wpAny _ _ (call (Value.ref 154) _) _ _ _); refine stopHere ?_)))
  (k_with "call ref" => ((k_here; (with_reducible show wpAny _ _ (call (Value.ref 381) _) _ _ _); refine stopHere ?_)))
  (k_with "call ref" => ((k_here; (with_reducible show wpAny _ _ (call (Value.ref 411) _) _ _ _); refine stopHere ?_)))
  (k_with "call ref" => ((k_here; (with_reducible show wpAny _ _ (call (Value.ref 418) _) _ _ _); refine stopHere ?_)))
  (k_with "call ref" => ((k_here; (with_reducible show wpAny _ _ (call (Value.ref 109) _) _ _ _); refine stopHere ?_)))
  (k_with "call ref" => ((k_here; (with_reducible show wpAny _ _ (call (Value.ref 342) _) _ _ _); refine stopHere ?_)))
  (k_with "call ref" => ((k_here; (with_reducible show wpAny _ _ (call (Value.ref 209) _) _ _ _); refine stopHere ?_)))
  (k_with "call ref" => ((k_here; (with_reducible show wpAny _ _ (call (Value.ref 244) _) _ _ _); refine stopHere ?_)))
  (k_with "call ref" => ((k_here; (with_reducible show wpAny _ _ (call (Value.ref 279) _) _ _ _); refine stopHere ?_)))
  (k_with "call ref" => ((k_here; (with_reducible show wpAny _ _ (call (Value.ref 230) _) _ _ _); refine stopHere ?_)))
  (k_with "call ref" => ((k_here; (with_reducible show wpAny _ _ (call (Value.ref 397) _) _ _ _); refine stopHere ?_)))
  (k_with "call ref" => ((k_here; (with_reducible show wpAny _ _ (call (Value.ref 404) _) _ _ _); refine stopHere ?_)))
  (k_with "SEPL" => (((repeat' (first | assumption | exact sep_nil | refine sep_app ?_ ?_ | refine sep_cons ?_ ?_)); (all_goals first | exact sepOne (by assumption) | exact sepTwo (by assumption) (by assumption) | exact sepFour (by assumption) (by assumption) (by assumption) (by assumption) | ((repeat' (first | exact nmNil | refine nmCons ?_ ?_)); all_goals first | assumption | k_extra "NEC" | exact Ne.symm (by assumption) | exact News.ne (by with_reducible assumption) (by k_mem) (by k_mem) (ne_typ rfl))))))
  trivial
theorem law_turn3 {U H S TX AN FL FN CL SL KL D st dst bk dbk Tr I PL : Addr} {ws pv : List Value} {wi : List Int} {kk2 uu kk : Nat → Tok} {o1c o2c oI : Obj} {i nP : Nat} {wy : Int} {tw : Tok} {ps : List Nat}
    (hws : ws.length ≤ 50) (hI : IntsAre ws wi) (hi6 : Hid (i < 6)) (hsys : @LT.lt Nat _ sysModules L) (q1 : D < U) (q2 : U < dbk) (q3 : dbk < bk) (q4 : bk < TX) (q5 : TX < AN) (q6 : AN < FL) (q7 : FL < FN) (q8 : FN < dst) (q9 : dst < st) (q10 : st < H) (q11 : H < S) (q12 : S < CL) (q13 : CL < SL) (q14 : SL < KL) (q15 : L + 1 < D) (q16 : L + 1 + 1 < D)
    (hc1 : o1c.data = .cell (some (.ref CL))) (hc2 : o2c.data = .cell (some (.ref KL))) (cI : oI.cls = .type "range_iterator") {news : List (Addr × Obj)}
    (hJ : JL prog w ws.length U H S TX AN FL FN CL SL KL D st dst bk dbk [(D, listOf ws.toArray 0), (st, instObj 381 dst), (dst, dictOf (stE w.params bk H S Tr kk2 uu) 7), (bk, instObj 154 dbk), (dbk, dictOf (bkE w.params TX AN FL FN kk) 4), (L + 1, o1c), (L + 1 + 1, o2c)] i m news) (hne : ∀ p ∈ news, ¬ p.1 = I) (w0 : 0 ≤ wy) (w7 : Hid (wy < 7)) (w5 : wy < 5 → 0 < i) (hPL : KL < PL) (hPI : ¬ PL = I) (iP : IntsN pv ps) (lP : ps.length = if wy < 5 then cntN wy else 0) (pI : ∀ p ∈ ps, p < i)
    (F₁ : Fr h₀ L h₁ (over [(Str.ofString "parts", .ref PL), (Str.ofString "way", .int wy tw)] m)) (N₁ : News h₀ L h₁ ((PL, listOf pv.toArray nP) :: (I, oI) :: news)) :
    wpAny (model prog w) (ktrTop dp un gd (Str.ofString "law") lawScope L a ccd (cellsFrom (L + 1) lawScope.names []) outer) (execs (forRest 6 3) (envX (Str.ofString "law") lawScope L a ccd (cellsFrom (L + 1) lawScope.names [])))
      (TurnJ h₀ L [(I, oI)] I (JL prog w ws.length U H S TX AN FL FN CL SL KL D st dst bk dbk [(D, listOf ws.toArray 0), (st, instObj 381 dst), (dst, dictOf (stE w.params bk H S Tr kk2 uu) 7), (bk, instObj 154 dbk), (dbk, dictOf (bkE w.params TX AN FL FN kk) 4), (L + 1, o1c), (L + 1 + 1, o2c)] (i + 1)) s₁ Q) (fun _ _ => False) { s₁ with heap := h₁, toks := tk₁ } := by
  have wc : wy < 3 ∨ wy = 3 ∨ wy = 4 ∨ wy = 5 ∨ wy = 6 := by
    have : wy < 7 := w7
    omega
  obtain hw | rfl | rfl | rfl | rfl := wc
  · exact law_t3A B X T hd hu hws hI hi6 hsys q1 q2 q3 q4 q5 q6 q7 q8 q9 q10 q11 q12 q13 q14 q15 q16 hc1 hc2 cI hJ hne hw w0 w7 w5 hPL hPI iP lP pI F₁ N₁
  · exact law_t3B B X T hd hu hws hI hi6 q1 q2 q3 q4 q5 q6 q7 q8 q9 q10 q11 q12 q13 q14 q15 q16 hc1 hc2 cI hJ hne w0 w7 w5 hPL hPI iP lP pI F₁ N₁
  · exact law_t3C B X T hd hu hws hI hi6 q1 q2 q3 q4 q5 q6 q7 q8 q9 q10 q11 q12 q13 q14 q15 q16 hc1 hc2 cI hJ hne w0 w7 w5 hPL hPI iP lP pI F₁ N₁
  · exact law_t3D B X T hd hu hws hI hi6 q1 q2 q3 q4 q5 q6 q7 q8 q9 q10 q11 q12 q13 q14 q15 q16 hc1 hc2 cI hJ hne w0 w7 w5 hPL hPI iP lP pI F₁ N₁
  · exact law_t3E B X T hd hu hws hI hi6 q1 q2 q3 q4 q5 q6 q7 q8 q9 q10 q11 q12 q13 q14 q15 q16 hc1 hc2 cI hJ hne w0 w7 w5 hPL hPI iP lP pI F₁ N₁
theorem ln35 : True := by
  (k_with "subscriptTail" => ((k_here; (with_reducible show wpAny _ _ (subscriptTail _ _ (Value.ref _) (Value.int _ _)) _ _ _); k_dflt (refine' item_list ?k1 ?k2 ?k3 ?k4 ?_; (case k1 => is_list); (case k4 => exact cntAt (by assumption) (by assumption)); (case k2 => k_extra "OM"); (case k3 => k_extra "OM")))))
  (k_with "execs cons" => (((with_reducible show wpAny _ _ (execs (Stmt.Assign [Expr.Name (Str.ofString "slot") _] _ _ :: _) _) _ _ _); refine stopHere ?_)))
  trivial
theorem law_turn2 {U H S TX AN FL FN CL SL KL D st dst bk dbk Tr I : Addr} {ws : List Value} {wi : List Int} {kk2 uu kk : Nat → Tok} {o1c o2c oI : Obj} {i : Nat} {wy : Int} {tn tw : Tok}
    (hws : ws.length ≤ 50) (hI : IntsAre ws wi) (hi6 : Hid (i < 6)) (hsys : @LT.lt Nat _ sysModules L) (q1 : D < U) (q2 : U < dbk) (q3 : dbk < bk) (q4 : bk < TX) (q5 : TX < AN) (q6 : AN < FL) (q7 : FL < FN) (q8 : FN < dst) (q9 : dst < st) (q10 : st < H) (q11 : H < S) (q12 : S < CL) (q13 : CL < SL) (q14 : SL < KL) (q15 : L + 1 < D) (q16 : L + 1 + 1 < D)
    (hc1 : o1c.data = .cell (some (.ref CL))) (hc2 : o2c.data = .cell (some (.ref KL))) (cI : oI.cls = .type "range_iterator") {news : List (Addr × Obj)}
    (hJ : JL prog w ws.length U H S TX AN FL FN CL SL KL D st dst bk dbk [(D, listOf ws.toArray 0), (st, instObj 381 dst), (dst, dictOf (stE w.params bk H S Tr kk2 uu) 7), (bk, instObj 154 dbk), (dbk, dictOf (bkE w.params TX AN FL FN kk) 4), (L + 1, o1c), (L + 1 + 1, o2c)] i m news) (hne : ∀ p ∈ news, ¬ p.1 = I) (w0 : 0 ≤ wy) (w7 : Hid (wy < 7)) (w5 : wy < 5 → 0 < i)
    (F₁ : Fr h₀ L h₁ (over [(Str.ofString "way", .int wy tw), (Str.ofString "number", .int (i : Int) tn)] m)) (N₁ : News h₀ L h₁ ((I, oI) :: news)) :
    wpAny (model prog w) (ktrTop dp un gd (Str.ofString "law") lawScope L a ccd (cellsFrom (L + 1) lawScope.names []) outer) (execs (forRest 6 1) (envX (Str.ofString "law") lawScope L a ccd (cellsFrom (L + 1) lawScope.names [])))
      (TurnJ h₀ L [(I, oI)] I (JL prog w ws.length U H S TX AN FL FN CL SL KL D st dst bk dbk [(D, listOf ws.toArray 0), (st, instObj 381 dst), (dst, dictOf (stE w.params bk H S Tr kk2 uu) 7), (bk, instObj 154 dbk), (dbk, dictOf (bkE w.params TX AN FL FN kk) 4), (L + 1, o1c), (L + 1 + 1, o2c)] (i + 1)) s₁ Q) (fun _ _ => False) { s₁ with heap := h₁, toks := tk₁ } := by
  generalize hg1 : forRest 6 1 = bd
  generalize hg2 : lawScope = sc
  conv at hg1 => lhs; whnf
  conv at hg2 => lhs; whnf
  subst hg1
  subst hg2
  refine Classical.byContradiction fun nGo => ?_
  obtain ⟨x0, xi, t0, t1, nU, hs, nH, ss, nS, ts, n1, oA, fs, n2, oF, cv, nC, sv, nSL, kv, nK, nt, pt, Tx, Fx, Ha, Sa, ns, ag, rfl, LS⟩ := hJ
  rw [ag.form] at F₁
  dsimp only [List.cons_append, List.nil_append] at N₁
  have q1' := ltN q1
  have q2' := ltN q2
  have q3' := ltN q3
  have q4' := ltN q4
  have q5' := ltN q5
  have q6' := ltN q6
  have q7' := ltN q7
  have q8' := ltN q8
  have q9' := ltN q9
  have q10' := ltN q10
  have q11' := ltN q11
  have q12' := ltN q12
  have q13' := ltN q13
  have q14' := ltN q14
  have q15' := ltN q15
  have q16' := ltN q16
  have hne0 := hne
  obtain ⟨i1, i2, i3, i4, i5, i6, i7, i8, i9, i10, i11, i12, i13, i14, i15, i16, i17, ipt, int_⟩ := neSplit hne
  refine nGo ?_; clear nGo
  have hi6' : i < 6 := hi6
  have lH := LS.lH
  have lS := LS.lS
  have lH' := LS.cH.length
  have lS' := LS.cS.length
  have b5 : hs.length ≤ 100 := len36 lH' lH (Nat.le_of_lt hi6')
  have b6 : ss.length ≤ 100 := len1 lS' lS (Nat.le_of_lt hi6')
  have b7 : Ha.length ≤ 100 := len36 rfl lH (Nat.le_of_lt hi6')
  have b8 : Sa.length ≤ 100 := len1 rfl lS (Nat.le_of_lt hi6')
  by_cases hw : wy < 5
  · k_extra "STEPS"
    rename_i PL _ lP _ _ _ l9 _ F' N' l1 _ _ _ _ _ hr F8 N8 hk9
    obtain ⟨cn2, cn1⟩ := cntN_le wy
    have hPL := ltN lP.2.2.2.2.2.2.2.2.2.2.1
    have hPa : ∀ q ∈ pt ++ nt, q.1 ≠ PL := fun q hq => Nat.ne_of_lt (allLt_mem lP.2.2.2.2.2.2.2.2.2.2.2.2.2.2.2.2.2.2 q hq)
    have hPI : ¬ PL = I := Nat.ne_of_gt lP.1
    have hPt : ∀ q ∈ pt, q.1 ≠ U := abN (X := U) LS.tp (show @LT.lt Nat _ U KL by first | k_extra "LTC" | omega)
    refine for_range (n := cntN wy) (fun j m' news' => ∃ pv nP ps x0 xi t0 t1 nU, Agree m' [(Str.ofString "parts", .ref PL), (Str.ofString "way", .int wy tw), (Str.ofString "number", .int (i : Int) tn), (Str.ofString "urn", .ref U), (Str.ofString "book", .ref bk), (Str.ofString "store", .ref st), (Str.ofString "steps", .ref SL)] ∧
      news' = (PL, listOf (List.toArray pv) nP) :: (I, oI) :: (U, listOf [.int x0 t0, .ref D, .int xi t1].toArray nU) :: (H, listOf hs.toArray nH) :: (S, listOf ss.toArray nS) :: (TX, listOf ts.toArray n1) :: (AN, oA) :: (FL, listOf fs.toArray n2) :: (FN, oF) :: (CL, listOf cv.toArray nC) :: (SL, listOf sv.toArray nSL) :: (KL, listOf kv.toArray nK) :: (D, listOf ws.toArray 0) :: (st, instObj 381 dst) :: (dst, dictOf (stE w.params bk H S Tr kk2 uu) 7) :: (bk, instObj 154 dbk) :: (dbk, dictOf (bkE w.params TX AN FL FN kk) 4) :: (L + 1, o1c) :: (L + 1 + 1, o2c) :: (pt ++ nt) ∧
      IntsN pv ps ∧ ps.length = j ∧ (∀ p ∈ ps, p < i) ∧ 0 ≤ x0 ∧ 0 ≤ xi ∧ xi ≤ (ws.length : Int)) rfl rfl hr (range0_small (by k_extra "OM")) range0_size (by assumption) (News.sub N8 (fun x hx => .tail _ hx)) ⟨[], 0, [], x0, xi, t0, t1, nU, .cons rfl (.cons rfl (.cons rfl (.cons rfl (.cons rfl (.cons rfl (.cons rfl .nil)))))), rfl, .nil, rfl, (fun _ h => nomatch h), LS.hx0, LS.hxi, LS.hxl⟩ ?_ ?_
    · intro j t2 m₂ news₂ h₂ tk₂ I2 oI2 hj hR9 hne2 cI2 F₂ N₂; obtain ⟨pv, nP, ps, x0, xi, t0, t1, nU, ag2, rfl, iP, lP2, pI, hx0, hxi, hxl⟩ := hR9
      rw [ag2.form] at F₂
      have hnt2 : ∀ q ∈ nt, q.1 ≠ U := News.neAll N₂ (by k_extra "SUBT") LS.tn (by k_mem) list_ne_tuple
      have nU2 : ¬ U = I2 := hne2 _ (.tail _ (.tail _ (.head _)))
      have nP2 : ¬ PL = I2 := hne2 _ (.head _)
      clear F' N' l1 hr F8 N8 hk9 ag2
      k_sweep
      (try dsimp only)
      k_extra "STEPS"
      have i0 := w5 hw
      have hPI' : ¬ I = PL := Ne.symm hPI
      have lpv := iP.length
      show wpAny _ _ _ _ _ _
      k_dflt (refine' pick_spec (pre := [(I2, oI2), (PL, listOf pv.toArray nP), (I, oI)]) ?B ?F ?X ?T ?hk ?hd ?hu ?N ?sep ?hD ?hDU ?hI ?hl ?x0 ?i0 ?i1 ?k0 ?k1 ?_; k_extra "CTX2"; (case N => exact N₂); (case sep => k_extra "SEPL"); (case hD => exact ⟨_, by k_extra "GET"⟩); (case hDU => k_extra "NEC"); (case hI => exact hI); (case hl => k_extra "OM"); (case x0 => assumption); (case i0 => assumption); (case i1 => assumption); (case k0 => k_extra "OM"); (case k1 => k_extra "OM"))
      intro h' tk' v tv x0' xi' t0' t1' nU' v0 v1 hx0 hxi hxl F' N'
      obtain ⟨pn, rfl⟩ := Int.eq_ofNat_of_zero_le v0
      (try dsimp only [List.nil_append, List.cons_append] at N')
      k_extra "AFTER"
      k_extra "STEPS"
      rename News _ _ _ _ => N8
      refine TurnJ.next (by assumption) N8 (neMap hne2 rfl) ⟨_, _, ps ++ [pn], x0', xi', t0', t1', nU', .cons rfl (.cons rfl (.cons rfl (.cons rfl (.cons rfl (.cons rfl (.cons rfl .nil)))))), rfl, iP.app (.cons .nil), by simp [lP2], ?_, hx0, hxi, hxl⟩
      intro p hp
      obtain hp | hp := List.mem_append.mp hp
      · exact pI p hp
      · rw [List.mem_singleton.mp hp]
        omega
    · intro m₂ news₂ h₂ tk₂ hR4 F₂ N₂; obtain ⟨pv, nP, ps, x0, xi, t0, t1, nU, ag2, rfl, iP, lP2, pI, hx0, hxi, hxl⟩ := hR4
      clear F' N' l1 hr F8 N8 hk9
      (try dsimp only)
      k_extra "STEPS"
      show wpAny _ _ _ _ _ _
      refine law_turn3 (PL := PL) (tw := tw) B X T hd hu hws hI hi6 hsys q1 q2 q3 q4 q5 q6 q7 q8 q9 q10 q11 q12 q13 q14 q15 q16 hc1 hc2 cI ⟨x0, xi, t0, t1, nU, hs, nH, ss, nS, ts, n1, oA, fs, n2, oF, cv, nC, sv, nSL, kv, nK, nt, pt, Tx, Fx, Ha, Sa, ns, .cons ?_ (.cons ?_ (.cons ?_ (.cons ?_ .nil))), rfl, { LS with hx0 := hx0, hxi := hxi, hxl := hxl }⟩ ?_ w0 w7 w5 hPL hPI iP (by rw [if_pos hw]; exact lP2) pI (Mine.Fr.form F₂ (.cons ?_ (.cons ?_ .nil))) N₂
      · exact ag2 _ (.tail _ (.tail _ (.tail _ (.head _))))
      · exact ag2 _ (.tail _ (.tail _ (.tail _ (.tail _ (.head _)))))
      · exact ag2 _ (.tail _ (.tail _ (.tail _ (.tail _ (.tail _ (.head _))))))
      · exact ag2 _ (.tail _ (.tail _ (.tail _ (.tail _ (.tail _ (.tail _ (.head _)))))))
      · exact neMap hne0 rfl
      · exact ag2 _ (.head _)
      · exact ag2 _ (.tail _ (.head _))
  · k_extra "STEPS"
    rename_i PL _ lP _ F' N'
    have hPL := ltN lP.2.2.2.2.2.2.2.2.2.2.1
    have hPI : ¬ PL = I := Nat.ne_of_gt lP.1
    show wpAny _ _ _ _ _ _
    refine law_turn3 (PL := PL) (tw := tw) B X T hd hu hws hI hi6 hsys q1 q2 q3 q4 q5 q6 q7 q8 q9 q10 q11 q12 q13 q14 q15 q16 hc1 hc2 cI ⟨x0, xi, t0, t1, nU, hs, nH, ss, nS, ts, n1, oA, fs, n2, oF, cv, nC, sv, nSL, kv, nK, nt, pt, Tx, Fx, Ha, Sa, ns, .cons rfl (.cons rfl (.cons rfl (.cons rfl .nil))), rfl, LS⟩ (neMap hne0 rfl) w0 w7 w5 hPL hPI .nil (by rw [if_neg hw]; rfl) (fun _ h => nomatch h) (Mine.Fr.form F' (.cons rfl (.cons rfl .nil))) N'
end
end Part29
section Part30
section
variable {prog : Program} {w : World} {p : Program} {loose : List Str} {mean : ExcName → Option Value} {mg mb : Str → Option Value} {dp un : Nat} {gd : Option (List Code)} {a : Addr} {ccd : Value} {outer : List Env} {A₀ : Around} {base h₀ : Heap} {L : Addr} {m : Str → Option Value} {s₁ : Shared} {h₁ : Heap} {tk₁ : Nat} {Q : Flow → Shared → Prop}
  (B : Below A₀ base outer h₀) (X : (Mine.hd.heap_1 w.params).In h₀) (T : Top p loose mean mg mb h₀) (hd : dp + 60 < recursionLimit) (hu : un + 1200 < cLine)
include B X T hd hu
theorem ln36 : True := by
  k_with_none
  (k_with "LIT0" => (first | with_reducible assumption | ((first | (with_reducible show @LE.le Nat _ (OfNat.ofNat _) (OfNat.ofNat _)) | (with_reducible show @LT.lt Nat _ (OfNat.ofNat _) (OfNat.ofNat _))); exact Nat.le_of_ble_eq_true rfl)))
  (k_with "LIT1" => (first | with_reducible assumption | (with_reducible refine' Nat.lt_of_lt_of_le ?ha ?hb; (case ha => with_reducible assumption); (case hb => k_extra "LIT0")) | (with_reducible refine' Nat.lt_of_le_of_lt ?ha ?hb; (case ha => with_reducible assumption); (case hb => k_extra "LIT0")) | (with_reducible refine' Nat.le_trans ?ha ?hb; (case ha => with_reducible assumption); (case hb => k_extra "LIT0")) | (with_reducible refine' Nat.le_of_lt (Nat.lt_of_lt_of_le ?ha ?hb); (case ha => with_reducible assumption); (case hb => k_extra "LIT0")) | (with_reducible refine' Nat.lt_of_le_of_lt (Nat.le_of_eq ?ha) ?hb; (case ha => with_reducible assumption); (case hb => k_extra "LIT0")) | (with_reducible refine' Nat.le_trans (Nat.le_of_eq ?ha) ?hb; (case ha => with_reducible assumption); (case hb => k_extra "LIT0"))))
  (k_with "LIT2" => (first | with_reducible assumption | (with_reducible refine' Nat.lt_of_lt_of_le ?ha ?hb; (case ha => with_reducible assumption); (case hb => k_extra "LIT1")) | (with_reducible refine' Nat.lt_of_le_of_lt ?ha ?hb; (case ha => with_reducible assumption); (case hb => k_extra "LIT1")) | (with_reducible refine' Nat.le_trans ?ha ?hb; (case ha => with_reducible assumption); (case hb => k_extra "LIT1")) | (with_reducible refine' Nat.le_of_lt (Nat.lt_of_lt_of_le ?ha ?hb); (case ha => with_reducible assumption); (case hb => k_extra "LIT1")) | (with_reducible refine' Nat.lt_of_le_of_lt (Nat.le_of_eq ?ha) ?hb; (case ha => with_reducible assumption); (case hb => k_extra "LIT1")) | (with_reducible refine' Nat.le_trans (Nat.le_of_eq ?ha) ?hb; (case ha => with_reducible assumption); (case hb => k_extra "LIT1"))))
  (k_with "OM" => (first | with_reducible assumption | with_reducible exact Int.natCast_nonneg _ | with_reducible exact Int.ofNat_lt.mpr (by with_reducible assumption) | with_reducible exact i63 (by k_extra "LIT2") | k_extra "LIT2" | omega))
  (k_with "LTC" => (first | with_reducible assumption | (refine' Nat.lt_trans ?ha ?hb; (case ha => with_reducible assumption); (case hb => k_extra "LTC"))))
  (k_with "NEC" => ((refine neN ?_; (try dsimp only); first | (refine' Nat.ne_of_lt ?hc; (case hc => k_extra "LTC")) | (refine' Nat.ne_of_gt ?hc; (case hc => k_extra "LTC")) | omega)))
  (k_with "ROOMN" => (first | (refine' roomN ?ha (Nat.add_assoc _ _ _) ?hb; (case ha => with_reducible assumption); (case hb => exact rfl)) | (refine' roomN ?ha rfl ?hb; (case ha => with_reducible assumption); (case hb => exact rfl)) | (refine' roomN ?ha ((Nat.add_assoc _ _ _).trans (Nat.add_assoc _ _ _)) ?hb; (case ha => with_reducible assumption); (case hb => exact rfl)) | exact Nat.lt_of_le_of_lt (Nat.le_add_right _ _) (by with_reducible assumption)))
  (k_with "MKUNITS" => (first | k_extra "ROOMN" | ktr_units))
  (k_with "MKNE" => (first | k_extra "NEC" | ((try dsimp only); assumption) | ((try dsimp only); exact Ne.symm (by assumption)) | ((try dsimp only); exact News.ne (by with_reducible assumption) (by k_mem) (by k_mem) (ne_typ rfl))))
  (k_with "MKALL" => (first | assumption | exact List.forall_mem_nil _ | (refine' List.forall_mem_cons.mpr ⟨?a, ?b⟩; (case a => k_ne); (case b => k_all))))
  (k_with "GET" => (first | exact Fr.keep (by with_reducible assumption) _ _ (by with_reducible assumption) | exact News.get (by with_reducible assumption) (by k_mem)))
  (k_with "MKINST" => (exact instG (by k_extra "GET") (by k_extra "GET")))
  (k_with "MISLIST" => (exact isListG (by k_extra "GET")))
  (k_with "ENTER" => (((case ks => assumption); (case k1 => assumption); (case k2 => assumption); (case k3 => assumption); (case k4 => assumption); (case kr => assumption); (case k5 => assumption); (case kK => assumption); (case k8 => first | k_extra "ROOMN" | ktr_room); (case k6 => k_is); (case k7 => k_is); (case k9 => exact BindsTo.of_eq rfl); (case kB => exact locs rfl); (case c2 => exact rfl); (case c3 => exact rfl); (case c4 => exact rfl); (case c5 => decide))))
  (k_with "subscriptTail" => ((k_here; (with_reducible show wpAny _ _ (subscriptTail _ _ (Value.ref _) (Value.int _ _)) _ _ _); k_dflt (refine' item_list ?k1 ?k2 ?k3 ?k4 ?_; (case k1 => is_list); (case k4 => assumption); (case k2 => k_extra "OM"); (case k3 => k_extra "OM")))))
  (k_with "subscriptTail" => ((k_here; (with_reducible show wpAny _ _ (subscriptTail _ _ (Value.ref _) (Value.int 1 _)) _ _ _); k_dflt (refine' item_tup1 ?k1 ?_; (case k1 => k_extra "GET")))))
  (k_with "subscriptTail" => ((k_here; (with_reducible show wpAny _ _ (subscriptTail _ _ (Value.ref _) (Value.int 0 _)) _ _ _); k_dflt (refine' item_tup0 ?k1 ?_; (case k1 => k_extra "GET")))))
  (k_with "compareOp Eq ref ref" => ((k_here; (with_reducible show wpAny _ _ (compareOp CmpOp.Eq (Value.ref _) (Value.ref _)) _ _ _); k_dflt (refine' eq_tup ?k1 ?k2 ?k3 ?_; (case k1 => k_extra "GET"); (case k2 => k_extra "GET"); (case k3 => k_units)))))
  (k_with "ite" => (first | (refine ite_pos ?c ?_; (case c => ((try simp only [decide_eq_true_eq, beq_iff_eq, Bool.not_eq_true', decide_eq_false_iff_not, ne_eq]); first | assumption | omega))) | (refine ite_neg ?c ?_; (case c => ((try simp only [decide_eq_true_eq, beq_iff_eq, Bool.not_eq_true', decide_eq_false_iff_not, ne_eq]); first | assumption | omega)))))
  (k_with "execs cons" => (((with_reducible refine wpAny_execs_cons ?_); (try dsimp only); k_fold)))
  (k_with "STEPS" => (((try k_fold); (repeat' (first | walk1 | (k_unfold; (try dsimp only)) | (dsimp only; walk1))); (all_goals (try dsimp only)))))
  (k_with "LV" => (((try dsimp only [WhileStep2]); refine' LeaveM.mk ?k1 ?k2 ?_; (case k1 => with_reducible assumption); (case k2 => with_reducible assumption); intro _ nK; (try dsimp only [List.nil_append, List.cons_append] at nK); revert nK; intro _; (try dsimp only))))
  (k_with "ROOM" => (first | k_extra "ROOMN" | (simp only [recursionLimit, cLine] at *; omega)))
  (k_with "CTX" => (((case B => with_reducible assumption); (case F => with_reducible assumption); (case X => with_reducible assumption); (case T => with_reducible assumption); (case hk => first | exact rfl | assumption); (case hd => k_extra "ROOM"); (case hu => k_extra "ROOM"); (case N => with_reducible assumption))))
  (k_with "KEEP" => (first | with_reducible assumption | exact DerV.keep (by with_reducible assumption) (Fr.keep (by with_reducible assumption)) | exact Sto.keep (by with_reducible assumption) (Fr.keep (by with_reducible assumption)) | exact Bok.keep (by with_reducible assumption) (Fr.keep (by with_reducible assumption)) | exact TupG.keep (by with_reducible assumption) (Fr.keep (by with_reducible assumption)) | exact ⟨_, by k_extra "GET"⟩ | exact ⟨_, _, _, _, rfl, by k_extra "GET"⟩ | assumption))
  (k_with "AFTER" => (((try dsimp only); (try k_sweep))))
  (k_with "call builtin:len" => ((k_here; (with_reducible show wpAny _ _ (call (Value.builtin "len") [Value.ref _]) _ _ _); k_dflt (refine' len_any ?k1 ?k2 ?_; (case k1 => is_list); (case k2 => first | with_reducible assumption | ((try simp only [List.length_append, List.length_cons, List.length_nil, List.length_set]); omega))))))
  (k_with "call builtin:list.append" => ((k_here; (with_reducible show wpAny _ _ (call (Value.builtin _) [Value.ref _, _]) _ _ _); k_dflt (refine' append_any ?k1 ?k2 ?k3 ?_ ?z; (case k1 => k_asm); (case k2 => k_asm); (case k3 => k_upd); (case z => first | with_reducible assumption | ((try simp only [List.length_append, List.length_cons, List.length_nil, List.length_set]); omega)); k_whole); intro _ _ _; (try k_sweep))))
  (k_with "setItem ref int" => ((k_here; (with_reducible show wpAny _ _ (setItem (Value.ref _) (Value.int _ _) _) _ _ _); k_dflt (refine' set_any ?k1 ?k2 ?k3 ?k4 ?k5 ?k6 ?_; (case k1 => k_asm); (case k2 => k_asm); (case k3 => k_upd); (case k4 => k_extra "OM"); (case k5 => first | with_reducible assumption | ((try simp only [List.length_append, List.length_cons, List.length_nil, List.length_set]); omega)); (case k6 => k_extra "OM"); k_whole); intro _ _ _; (try k_sweep))))
  (k_with "CTX2" => (((case B => with_reducible assumption); (case F => with_reducible assumption); (case X => with_reducible assumption); (case T => with_reducible assumption); (case hk => first | exact rfl | assumption); (case hd => k_extra "ROOM"); (case hu => k_extra "ROOM"))))
  (k_with "SEP" => (((repeat' (first | assumption | exact sep_nil | refine sep_app ?_ ?_ | refine sep_cons ?_ ?_)); (all_goals ((repeat' (first | exact nmNil | refine nmCons ?_ ?_)); all_goals first | assumption | k_extra "NEC" | exact Ne.symm (by assumption) | exact News.ne (by with_reducible assumption) (by k_mem) (by k_mem) (ne_typ rfl))))))
  (k_with "SPLIT1" => (first | (refine' News.at0 ?n; (case n => with_reducible assumption)) | (refine' News.at1 ?n; (case n => with_reducible assumption)) | (refine' News.at2 ?n; (case n => with_reducible assumption)) | (refine' News.at3 ?n; (case n => with_reducible assumption)) | (refine' News.at4 ?n; (case n => with_reducible assumption)) | (refine' News.at5 ?n; (case n => with_reducible assumption)) | (refine' News.at6 ?n; (case n => with_reducible assumption))))
  (k_with "pyIter ref" => (refine stopHere ?_))
  (k_with "SEPI" => (((repeat' (first | assumption | exact sep_nil | refine sep_app ?_ ?_ | refine sep_cons ?_ ?_)); (all_goals ((try dsimp only); first | assumption | k_extra "NEC" | exact Ne.symm (by assumption))))))
  (k_with "SUBT" => (first | exact sub_refl | (refine sub_cons ?_; k_extra "SUBT") | (refine sub_right ?_; k_extra "SUBT") | (refine sub_left ?_; k_extra "SUBT")))
  (k_with "MEM" => (first | exact memH | (with_reducible refine List.mem_append_right _ ?_; k_extra "MEM") | (with_reducible refine List.mem_append_left _ ?_; k_extra "MEM") | (with_reducible refine memT ?_; k_extra "MEM")))
  (k_with "SUBT2" => (first | exact sub_refl | (with_reducible refine sub_right ?_; k_extra "SUBT2") | (with_reducible refine sub_left ?_; k_extra "SUBT2") | (with_reducible refine sub_cons ?_; k_extra "SUBT2")))
  (k_with "SUBM" => (((repeat' (first | exact sep_nil | refine sep_app ?_ ?_ | refine sep_cons ?_ ?_)); (all_goals first | k_extra "MEM" | k_extra "SUBT2"))))
  (k_with "SUB" => (((repeat' (first | exact sep_nil | refine sep_app ?_ ?_ | refine sep_cons ?_ ?_)); (all_goals first | k_mem | k_extra "MEM" | k_extra "SUBT2" | (simp only [List.mem_append, List.mem_cons, List.not_mem_nil, true_or, or_true, or_false, false_or]; done) | (intro _ hx9; simp only [hx9, List.mem_append, List.mem_cons, List.not_mem_nil, true_or, or_true, or_false, false_or]; done) | k_extra "SUBT"))))
  (k_with "exec For Name Name cons nil" => ((k_here; (with_unfolding_all refine' For_invVF ?kF ?k1 ?k2 ?_; (case kF => assumption); (case k1 => exact rfl); (case k2 => exact rfl); k_whole))))
  (k_with "exec For Name Call cons nil" => ((k_here; (with_unfolding_all refine' For_invVF ?kF ?k1 ?k2 ?_; (case kF => assumption); (case k1 => exact rfl); (case k2 => exact rfl); k_whole))))
  (k_with "exec For Name Subscript cons nil" => ((k_here; (with_unfolding_all refine' For_invVF ?kF ?k1 ?k2 ?_; (case kF => assumption); (case k1 => exact rfl); (case k2 => exact rfl); k_whole))))
  (k_with "exec For Name Attribute cons nil" => ((k_here; (with_unfolding_all refine' For_invVF ?kF ?k1 ?k2 ?_; (case kF => assumption); (case k1 => exact rfl); (case k2 => exact rfl); k_whole))))
  (k_with "KEEP" => (first | with_reducible assumption | exact DerV.keep (by with_reducible assumption) (Fr.keep (by with_reducible assumption)) | exact Sto.keep (by with_reducible assumption) (Fr.keep (by with_reducible assumption)) | exact Bok.keep (by with_reducible assumption) (Fr.keep (by with_reducible assumption)) | exact TupG.keep (by with_reducible assumption) (Fr.keep (by with_reducible assumption)) | exact ⟨_, by k_extra "GET"⟩ | exact ⟨_, _, _, _, rfl, by k_extra "GET"⟩ | assumption))
  (k_with "call ref" => ((k_here; (with_reducible show wpAny _ _ (call (Value.ref 154) _) _ _ _); refine stopHere ?_)))
  (k_with "call ref" => ((k_here; (with_reducible show wpAny _ _ (call (Value.ref 381) _) _ _ _); refine stopHere ?_)))
  (k_with "call ref" => ((k_here; (with_reducible show wpAny _ _ (call (Value.ref 411) _) _ _ _); refine stopHere ?_)))
  (k_with "call ref" => ((k_here; (with_reducible show wpAny _ _ (call (Value.ref 418) _) _ _ _); refine stopHere ?_)))
  (k_with "call ref" => ((k_here; (with_reducible show wpAny _ _ (call (Value.ref 109) _) _ _ _); refine stopHere ?_)))
  (k_with "call ref" => ((k_here; (with_reducible show wpAny _ _ (call (Value.ref 342) _) _ _ _); refine stopHere ?_)))
  (k_with "call ref" => ((k_here; (with_reducible show wpAny _ _ (call (Value.ref 209) _) _ _ _); refine stopHere ?_)))
  (k_with "call ref" => ((k_here; (with_reducible show wpAny _ _ (call (Value.ref 244) _) _ _ _); refine stopHere ?_)))
  (k_with "call ref" => ((k_here; (with_reducible show wpAny _ _ (call (Value.ref 279) _) _ _ _); refine stopHere ?_)))
  (k_with "call ref" => ((k_here; (with_reducible show wpAny _ _ (call (Value.ref 230) _) _ _ _); refine stopHere ?_)))
  (k_with "call ref" => ((k_here; (with_reducible show wpAny _ _ (call (Value.ref 397) _) _ _ _); refine stopHere ?_)))
  (k_with "call ref" => ((k_here; (with_reducible show wpAny _ _ (call (Value.ref 404) _) _ _ _); refine stopHere ?_)))
  (k_with "SEPL" => (((repeat' (first | assumption | exact sep_nil | refine sep_app ?_ ?_ | refine sep_cons ?_ ?_)); (all_goals first | exact sepOne (by assumption) | exact sepTwo (by assumption) (by assumption) | exact sepFour (by assumption) (by assumption) (by assumption) (by assumption) | ((repeat' (first | exact nmNil | refine nmCons ?_ ?_)); all_goals first | assumption | k_extra "NEC" | exact Ne.symm (by assumption) | exact News.ne (by with_reducible assumption) (by k_mem) (by k_mem) (ne_typ rfl))))))
  (k_with "execs cons" => (((with_reducible show wpAny _ _ (execs (Stmt.Assign [Expr.Name (Str.ofString "parts") _] _ _ :: _) _) _ _ _); refine stopHere ?_)))
  trivial
theorem law_turn {U H S TX AN FL FN CL SL KL D st dst bk dbk Tr I : Addr} {ws : List Value} {wi : List Int} {kk2 uu kk : Nat → Tok} {o1c o2c oI : Obj} {i : Nat} {t : Tok}
    (hws : ws.length ≤ 50) (hI : IntsAre ws wi) (hi6 : Hid (i < 6)) (hsys : @LT.lt Nat _ sysModules L) (q1 : D < U) (q2 : U < dbk) (q3 : dbk < bk) (q4 : bk < TX) (q5 : TX < AN) (q6 : AN < FL) (q7 : FL < FN) (q8 : FN < dst) (q9 : dst < st) (q10 : st < H) (q11 : H < S) (q12 : S < CL) (q13 : CL < SL) (q14 : SL < KL) (q15 : L + 1 < D) (q16 : L + 1 + 1 < D)
    (hc1 : o1c.data = .cell (some (.ref CL))) (hc2 : o2c.data = .cell (some (.ref KL))) (cI : oI.cls = .type "range_iterator") {news : List (Addr × Obj)}
    (hJ : JL prog w ws.length U H S TX AN FL FN CL SL KL D st dst bk dbk [(D, listOf ws.toArray 0), (st, instObj 381 dst), (dst, dictOf (stE w.params bk H S Tr kk2 uu) 7), (bk, instObj 154 dbk), (dbk, dictOf (bkE w.params TX AN FL FN kk) 4), (L + 1, o1c), (L + 1 + 1, o2c)] i m news) (hne : ∀ p ∈ news, ¬ p.1 = I)
    (F₁ : Fr h₀ L h₁ (fun y => if y = Str.ofString "number" then some (.int ((0 : Int) + (i : Int) * 1) t) else m y)) (N₁ : News h₀ L h₁ ((I, oI) :: news)) :
    wpAny (model prog w) (ktrTop dp un gd (Str.ofString "law") lawScope L a ccd (cellsFrom (L + 1) lawScope.names []) outer) (execs (forBody 6) (envX (Str.ofString "law") lawScope L a ccd (cellsFrom (L + 1) lawScope.names [])))
      (TurnJ h₀ L [(I, oI)] I (JL prog w ws.length U H S TX AN FL FN CL SL KL D st dst bk dbk [(D, listOf ws.toArray 0), (st, instObj 381 dst), (dst, dictOf (stE w.params bk H S Tr kk2 uu) 7), (bk, instObj 154 dbk), (dbk, dictOf (bkE w.params TX AN FL FN kk) 4), (L + 1, o1c), (L + 1 + 1, o2c)] (i + 1)) s₁ Q) (fun _ _ => False) { s₁ with heap := h₁, toks := tk₁ } := by
  generalize hg1 : forBody 6 = bd
  generalize hg2 : lawScope = sc
  conv at hg1 => lhs; whnf
  conv at hg2 => lhs; whnf
  subst hg1
  subst hg2
  refine Classical.byContradiction fun nGo => ?_
  obtain ⟨x0, xi, t0, t1, nU, hs, nH, ss, nS, ts, n1, oA, fs, n2, oF, cv, nC, sv, nSL, kv, nK, nt, pt, Tx, Fx, Ha, Sa, ns, ag, rfl, LS⟩ := hJ
  rw [ag.form] at F₁
  rw [show (0 : Int) + (i : Int) * 1 = (i : Int) by omega] at F₁
  dsimp only [List.cons_append, List.nil_append] at N₁
  have q1' := ltN q1
  have q2' := ltN q2
  have q3' := ltN q3
  have q4' := ltN q4
  have q5' := ltN q5
  have q6' := ltN q6
  have q7' := ltN q7
  have q8' := ltN q8
  have q9' := ltN q9
  have q10' := ltN q10
  have q11' := ltN q11
  have q12' := ltN q12
  have q13' := ltN q13
  have q14' := ltN q14
  have q15' := ltN q15
  have q16' := ltN q16
  have hne0 := hne
  obtain ⟨i1, i2, i3, i4, i5, i6, i7, i8, i9, i10, i11, i12, i13, i14, i15, i16, i17, ipt, int_⟩ := neSplit hne
  refine nGo ?_; clear nGo
  have pU : ∀ q ∈ pt, q.1 ≠ U := abN (X := U) LS.tp (show @LT.lt Nat _ U KL by first | k_extra "LTC" | omega)
  have fU : ∀ q ∈ nt, q.1 ≠ U := News.neAll N₁ (by k_extra "SUBT") LS.tn (by k_mem) list_ne_tuple
  by_cases hi0 : i = 0
  · k_extra "STEPS"
    show wpAny _ _ _ _ _ _
    k_dflt (refine' pick_spec (pre := [(I, oI)]) ?B ?F ?X ?T ?hk ?hd ?hu ?N ?sep ?hD ?hDU ?hI ?hl ?x0 ?i0 ?i1 ?k0 ?k1 ?_; k_extra "CTX2"; (case N => exact N₁); (case sep => k_extra "SEPL"); (case hD => exact ⟨_, by k_extra "GET"⟩); (case hDU => k_extra "NEC"); (case hI => exact hI); (case hl => k_extra "OM"); (case x0 => exact LS.hx0); (case i0 => exact LS.hxi); (case i1 => exact LS.hxl); (case k0 => decide); (case k1 => decide))
    intro h' tk' v tv x0' xi' t0' t1' nU' v0 v1 hx0 hxi hxl F' N'
    obtain ⟨pn, hpn, hv1⟩ : ∃ pn : Nat, v = (pn : Int) ∧ Hid (pn < 2) := ⟨v.toNat, by omega, by show v.toNat < 2; omega⟩
    subst hpn
    clear v0 v1
    (try dsimp only [List.nil_append, List.cons_append] at N')
    k_extra "AFTER"
    k_extra "STEPS"
    show wpAny _ _ _ _ _ _
    have hv1' : pn < 2 := hv1
    refine law_turn2 (wy := 5 + (pn : Int)) B X T hd hu hws hI hi6 hsys q1 q2 q3 q4 q5 q6 q7 q8 q9 q10 q11 q12 q13 q14 q15 q16 hc1 hc2 cI ⟨x0', xi', t0', t1', nU', hs, nH, ss, nS, ts, n1, oA, fs, n2, oF, cv, nC, sv, nSL, kv, nK, nt, pt, Tx, Fx, Ha, Sa, ns, .cons ?_ (.cons ?_ (.cons ?_ (.cons ?_ .nil))), rfl, { LS with hx0 := hx0, hxi := hxi, hxl := hxl }⟩ (neMap hne0 rfl) (by k_extra "OM") (show 5 + (pn : Int) < 7 by omega) (fun h => absurd h (by k_extra "OM")) (Mine.Fr.form (by assumption) (.cons rfl (.cons rfl .nil))) (by assumption)
    all_goals rfl
  · k_extra "STEPS"
    show wpAny _ _ _ _ _ _
    k_dflt (refine' pick_spec (pre := [(I, oI)]) ?B ?F ?X ?T ?hk ?hd ?hu ?N ?sep ?hD ?hDU ?hI ?hl ?x0 ?i0 ?i1 ?k0 ?k1 ?_; k_extra "CTX2"; (case N => exact N₁); (case sep => k_extra "SEPL"); (case hD => exact ⟨_, by k_extra "GET"⟩); (case hDU => k_extra "NEC"); (case hI => exact hI); (case hl => k_extra "OM"); (case x0 => exact LS.hx0); (case i0 => exact LS.hxi); (case i1 => exact LS.hxl); (case k0 => decide); (case k1 => decide))
    intro h' tk' v tv x0' xi' t0' t1' nU' v0 v1 hx0 hxi hxl F' N'
    obtain ⟨pn, hpn, hv1⟩ : ∃ pn : Nat, v = (pn : Int) ∧ Hid (pn < 7) := ⟨v.toNat, by omega, by show v.toNat < 7; omega⟩
    subst hpn
    clear v0 v1
    (try dsimp only [List.nil_append, List.cons_append] at N')
    k_extra "AFTER"
    k_extra "STEPS"
    show wpAny _ _ _ _ _ _
    have hv1' : pn < 7 := hv1
    refine law_turn2 (wy := (pn : Int)) B X T hd hu hws hI hi6 hsys q1 q2 q3 q4 q5 q6 q7 q8 q9 q10 q11 q12 q13 q14 q15 q16 hc1 hc2 cI ⟨x0', xi', t0', t1', nU', hs, nH, ss, nS, ts, n1, oA, fs, n2, oF, cv, nC, sv, nSL, kv, nK, nt, pt, Tx, Fx, Ha, Sa, ns, .cons ?_ (.cons ?_ (.cons ?_ (.cons ?_ .nil))), rfl, { LS with hx0 := hx0, hxi := hxi, hxl := hxl }⟩ (neMap hne0 rfl) (by k_extra "OM") (show (pn : Int) < 7 by omega) (fun _ => by omega) (Mine.Fr.form (by assumption) (.cons rfl (.cons rfl .nil))) (by assumption)
    all_goals rfl
end
end Part30
section Part31
section
variable {prog : Program} {w : World} {A : Around} {s : Shared} {h₀ : Heap} {L : Addr} {m : Str → Option Value} {env : Env}
theorem ln37 : True := by
  k_with_none
  (k_with "LIT0" => (first | with_reducible assumption | ((first | (with_reducible show @LE.le Nat _ (OfNat.ofNat _) (OfNat.ofNat _)) | (with_reducible show @LT.lt Nat _ (OfNat.ofNat _) (OfNat.ofNat _))); exact Nat.le_of_ble_eq_true rfl)))
  (k_with "LIT1" => (first | with_reducible assumption | (with_reducible refine' Nat.lt_of_lt_of_le ?ha ?hb; (case ha => with_reducible assumption); (case hb => k_extra "LIT0")) | (with_reducible refine' Nat.lt_of_le_of_lt ?ha ?hb; (case ha => with_reducible assumption); (case hb => k_extra "LIT0")) | (with_reducible refine' Nat.le_trans ?ha ?hb; (case ha => with_reducible assumption); (case hb => k_extra "LIT0")) | (with_reducible refine' Nat.le_of_lt (Nat.lt_of_lt_of_le ?ha ?hb); (case ha => with_reducible assumption); (case hb => k_extra "LIT0")) | (with_reducible refine' Nat.lt_of_le_of_lt (Nat.le_of_eq ?ha) ?hb; (case ha => with_reducible assumption); (case hb => k_extra "LIT0")) | (with_reducible refine' Nat.le_trans (Nat.le_of_eq ?ha) ?hb; (case ha => with_reducible assumption); (case hb => k_extra "LIT0"))))
  (k_with "LIT2" => (first | with_reducible assumption | (with_reducible refine' Nat.lt_of_lt_of_le ?ha ?hb; (case ha => with_reducible assumption); (case hb => k_extra "LIT1")) | (with_reducible refine' Nat.lt_of_le_of_lt ?ha ?hb; (case ha => with_reducible assumption); (case hb => k_extra "LIT1")) | (with_reducible refine' Nat.le_trans ?ha ?hb; (case ha => with_reducible assumption); (case hb => k_extra "LIT1")) | (with_reducible refine' Nat.le_of_lt (Nat.lt_of_lt_of_le ?ha ?hb); (case ha => with_reducible assumption); (case hb => k_extra "LIT1")) | (with_reducible refine' Nat.lt_of_le_of_lt (Nat.le_of_eq ?ha) ?hb; (case ha => with_reducible assumption); (case hb => k_extra "LIT1")) | (with_reducible refine' Nat.le_trans (Nat.le_of_eq ?ha) ?hb; (case ha => with_reducible assumption); (case hb => k_extra "LIT1"))))
  (k_with "OM" => (first | with_reducible assumption | with_reducible exact Int.natCast_nonneg _ | with_reducible exact Int.ofNat_lt.mpr (by with_reducible assumption) | with_reducible exact i63 (by k_extra "LIT2") | k_extra "LIT2" | omega))
  (k_with "LTC" => (first | with_reducible assumption | (refine' Nat.lt_trans ?ha ?hb; (case ha => with_reducible assumption); (case hb => k_extra "LTC"))))
  (k_with "NEC" => ((refine neN ?_; (try dsimp only); first | (refine' Nat.ne_of_lt ?hc; (case hc => k_extra "LTC")) | (refine' Nat.ne_of_gt ?hc; (case hc => k_extra "LTC")) | omega)))
  (k_with "ROOMN" => (first | (refine' roomN ?ha (Nat.add_assoc _ _ _) ?hb; (case ha => with_reducible assumption); (case hb => exact rfl)) | (refine' roomN ?ha rfl ?hb; (case ha => with_reducible assumption); (case hb => exact rfl)) | (refine' roomN ?ha ((Nat.add_assoc _ _ _).trans (Nat.add_assoc _ _ _)) ?hb; (case ha => with_reducible assumption); (case hb => exact rfl)) | exact Nat.lt_of_le_of_lt (Nat.le_add_right _ _) (by with_reducible assumption)))
  (k_with "MKUNITS" => (first | k_extra "ROOMN" | ktr_units))
  (k_with "MKNE" => (first | k_extra "NEC" | ((try dsimp only); assumption) | ((try dsimp only); exact Ne.symm (by assumption)) | ((try dsimp only); exact News.ne (by with_reducible assumption) (by k_mem) (by k_mem) (ne_typ rfl))))
  (k_with "MKALL" => (first | assumption | exact List.forall_mem_nil _ | (refine' List.forall_mem_cons.mpr ⟨?a, ?b⟩; (case a => k_ne); (case b => k_all))))
  (k_with "GET" => (first | exact Fr.keep (by with_reducible assumption) _ _ (by with_reducible assumption) | exact News.get (by with_reducible assumption) (by k_mem)))
  (k_with "MKINST" => (exact instG (by k_extra "GET") (by k_extra "GET")))
  (k_with "MISLIST" => (exact isListG (by k_extra "GET")))
  (k_with "ENTER" => (((case ks => assumption); (case k1 => assumption); (case k2 => assumption); (case k3 => assumption); (case k4 => assumption); (case kr => assumption); (case k5 => assumption); (case kK => assumption); (case k8 => first | k_extra "ROOMN" | ktr_room); (case k6 => k_is); (case k7 => k_is); (case k9 => exact BindsTo.of_eq rfl); (case kB => exact locs rfl); (case c2 => exact rfl); (case c3 => exact rfl); (case c4 => exact rfl); (case c5 => decide))))
  (k_with "subscriptTail" => ((k_here; (with_reducible show wpAny _ _ (subscriptTail _ _ (Value.ref _) (Value.int _ _)) _ _ _); k_dflt (refine' item_list ?k1 ?k2 ?k3 ?k4 ?_; (case k1 => is_list); (case k4 => assumption); (case k2 => k_extra "OM"); (case k3 => k_extra "OM")))))
  (k_with "subscriptTail" => ((k_here; (with_reducible show wpAny _ _ (subscriptTail _ _ (Value.ref _) (Value.int 1 _)) _ _ _); k_dflt (refine' item_tup1 ?k1 ?_; (case k1 => k_extra "GET")))))
  (k_with "subscriptTail" => ((k_here; (with_reducible show wpAny _ _ (subscriptTail _ _ (Value.ref _) (Value.int 0 _)) _ _ _); k_dflt (refine' item_tup0 ?k1 ?_; (case k1 => k_extra "GET")))))
  (k_with "compareOp Eq ref ref" => ((k_here; (with_reducible show wpAny _ _ (compareOp CmpOp.Eq (Value.ref _) (Value.ref _)) _ _ _); k_dflt (refine' eq_tup ?k1 ?k2 ?k3 ?_; (case k1 => k_extra "GET"); (case k2 => k_extra "GET"); (case k3 => k_units)))))
  (k_with "ite" => (first | (refine ite_pos ?c ?_; (case c => ((try simp only [decide_eq_true_eq, beq_iff_eq, Bool.not_eq_true', decide_eq_false_iff_not, ne_eq]); first | assumption | omega))) | (refine ite_neg ?c ?_; (case c => ((try simp only [decide_eq_true_eq, beq_iff_eq, Bool.not_eq_true', decide_eq_false_iff_not, ne_eq]); first | assumption | omega)))))
  (k_with "execs cons" => (((with_reducible refine wpAny_execs_cons ?_); (try dsimp only); k_fold)))
  (k_with "STEPS" => (((try k_fold); (repeat' (first | walk1 | (k_unfold; (try dsimp only)) | (dsimp only; walk1))); (all_goals (try dsimp only)))))
  (k_with "LV" => (((try dsimp only [WhileStep2]); refine' LeaveM.mk ?k1 ?k2 ?_; (case k1 => with_reducible assumption); (case k2 => with_reducible assumption); intro _ nK; (try dsimp only [List.nil_append, List.cons_append] at nK); revert nK; intro _; (try dsimp only))))
  (k_with "ROOM" => (first | k_extra "ROOMN" | (simp only [recursionLimit, cLine] at *; omega)))
  (k_with "CTX" => (((case B => with_reducible assumption); (case F => with_reducible assumption); (case X => with_reducible assumption); (case T => with_reducible assumption); (case hk => first | exact rfl | assumption); (case hd => k_extra "ROOM"); (case hu => k_extra "ROOM"); (case N => with_reducible assumption))))
  (k_with "KEEP" => (first | with_reducible assumption | exact DerV.keep (by with_reducible assumption) (Fr.keep (by with_reducible assumption)) | exact Sto.keep (by with_reducible assumption) (Fr.keep (by with_reducible assumption)) | exact Bok.keep (by with_reducible assumption) (Fr.keep (by with_reducible assumption)) | exact TupG.keep (by with_reducible assumption) (Fr.keep (by with_reducible assumption)) | exact ⟨_, by k_extra "GET"⟩ | exact ⟨_, _, _, _, rfl, by k_extra "GET"⟩ | assumption))
  (k_with "AFTER" => (((try dsimp only); (try k_sweep))))
  (k_with "call builtin:len" => ((k_here; (with_reducible show wpAny _ _ (call (Value.builtin "len") [Value.ref _]) _ _ _); k_dflt (refine' len_any ?k1 ?k2 ?_; (case k1 => is_list); (case k2 => first | with_reducible assumption | ((try simp only [List.length_append, List.length_cons, List.length_nil, List.length_set]); omega))))))
  (k_with "call builtin:list.append" => ((k_here; (with_reducible show wpAny _ _ (call (Value.builtin _) [Value.ref _, _]) _ _ _); k_dflt (refine' append_any ?k1 ?k2 ?k3 ?_ ?z; (case k1 => k_asm); (case k2 => k_asm); (case k3 => k_upd); (case z => first | with_reducible assumption | ((try simp only [List.length_append, List.length_cons, List.length_nil, List.length_set]); omega)); k_whole); intro _ _ _; (try k_sweep))))
  (k_with "setItem ref int" => ((k_here; (with_reducible show wpAny _ _ (setItem (Value.ref _) (Value.int _ _) _) _ _ _); k_dflt (refine' set_any ?k1 ?k2 ?k3 ?k4 ?k5 ?k6 ?_; (case k1 => k_asm); (case k2 => k_asm); (case k3 => k_upd); (case k4 => k_extra "OM"); (case k5 => first | with_reducible assumption | ((try simp only [List.length_append, List.length_cons, List.length_nil, List.length_set]); omega)); (case k6 => k_extra "OM"); k_whole); intro _ _ _; (try k_sweep))))
  (k_with "CTX2" => (((case B => with_reducible assumption); (case F => with_reducible assumption); (case X => with_reducible assumption); (case T => with_reducible assumption); (case hk => first | exact rfl | assumption); (case hd => k_extra "ROOM"); (case hu => k_extra "ROOM"))))
  (k_with "SEP" => (((repeat' (first | assumption | exact sep_nil | refine sep_app ?_ ?_ | refine sep_cons ?_ ?_)); (all_goals ((repeat' (first | exact nmNil | refine nmCons ?_ ?_)); all_goals first | assumption | k_extra "NEC" | exact Ne.symm (by assumption) | exact News.ne (by with_reducible assumption) (by k_mem) (by k_mem) (ne_typ rfl))))))
  (k_with "SPLIT1" => (first | (refine' News.at0 ?n; (case n => with_reducible assumption)) | (refine' News.at1 ?n; (case n => with_reducible assumption)) | (refine' News.at2 ?n; (case n => with_reducible assumption)) | (refine' News.at3 ?n; (case n => with_reducible assumption)) | (refine' News.at4 ?n; (case n => with_reducible assumption)) | (refine' News.at5 ?n; (case n => with_reducible assumption)) | (refine' News.at6 ?n; (case n => with_reducible assumption))))
  (k_with "pyIter ref" => (refine stopHere ?_))
  (k_with "SEPI" => (((repeat' (first | assumption | exact sep_nil | refine sep_app ?_ ?_ | refine sep_cons ?_ ?_)); (all_goals ((try dsimp only); first | assumption | k_extra "NEC" | exact Ne.symm (by assumption))))))
  (k_with "SUBT" => (first | exact sub_refl | (refine sub_cons ?_; k_extra "SUBT") | (refine sub_right ?_; k_extra "SUBT") | (refine sub_left ?_; k_extra "SUBT")))
  (k_with "MEM" => (first | exact memH | (with_reducible refine List.mem_append_right _ ?_; k_extra "MEM") | (with_reducible refine List.mem_append_left _ ?_; k_extra "MEM") | (with_reducible refine memT ?_; k_extra "MEM")))
  (k_with "SUBT2" => (first | exact sub_refl | (with_reducible refine sub_right ?_; k_extra "SUBT2") | (with_reducible refine sub_left ?_; k_extra "SUBT2") | (with_reducible refine sub_cons ?_; k_extra "SUBT2")))
  (k_with "SUBM" => (((repeat' (first | exact sep_nil | refine sep_app ?_ ?_ | refine sep_cons ?_ ?_)); (all_goals first | k_extra "MEM" | k_extra "SUBT2"))))
  (k_with "SUB" => (((repeat' (first | exact sep_nil | refine sep_app ?_ ?_ | refine sep_cons ?_ ?_)); (all_goals first | k_mem | k_extra "MEM" | k_extra "SUBT2" | (simp only [List.mem_append, List.mem_cons, List.not_mem_nil, true_or, or_true, or_false, false_or]; done) | (intro _ hx9; simp only [hx9, List.mem_append, List.mem_cons, List.not_mem_nil, true_or, or_true, or_false, false_or]; done) | k_extra "SUBT"))))
  (k_with "exec For Name Name cons nil" => ((k_here; (with_unfolding_all refine' For_invVF ?kF ?k1 ?k2 ?_; (case kF => assumption); (case k1 => exact rfl); (case k2 => exact rfl); k_whole))))
  (k_with "exec For Name Call cons nil" => ((k_here; (with_unfolding_all refine' For_invVF ?kF ?k1 ?k2 ?_; (case kF => assumption); (case k1 => exact rfl); (case k2 => exact rfl); k_whole))))
  (k_with "exec For Name Subscript cons nil" => ((k_here; (with_unfolding_all refine' For_invVF ?kF ?k1 ?k2 ?_; (case kF => assumption); (case k1 => exact rfl); (case k2 => exact rfl); k_whole))))
  (k_with "exec For Name Attribute cons nil" => ((k_here; (with_unfolding_all refine' For_invVF ?kF ?k1 ?k2 ?_; (case kF => assumption); (case k1 => exact rfl); (case k2 => exact rfl); k_whole))))
  (k_with "KEEP" => (first | with_reducible assumption | exact DerV.keep (by with_reducible assumption) (Fr.keep (by with_reducible assumption)) | exact Sto.keep (by with_reducible assumption) (Fr.keep (by with_reducible assumption)) | exact Bok.keep (by with_reducible assumption) (Fr.keep (by with_reducible assumption)) | exact TupG.keep (by with_reducible assumption) (Fr.keep (by with_reducible assumption)) | exact ⟨_, by k_extra "GET"⟩ | exact ⟨_, _, _, _, rfl, by k_extra "GET"⟩ | assumption))
  trivial
theorem comp_restT {ct elt : PySem.Expr} {x : Str} {scope : Scope} {cl : List (Str × Addr)} {S : List (Addr × Obj) → Prop} {P : Nat → Value → Prop} {g : Nat → Bool} {Fin : List Value → List (Addr × Obj) → Prop} {n : Nat} {news : List (Addr × Obj)} (hS : S news)
    (turn : ∀ i v I oI C oC D m₂ ys h tk (E' : Value → Shared → Prop), i < n → P i v → LCg.NsObj oC m₂ → m₂ x = some v → Fr h₀ L h m → News h₀ L h ((I, oI) :: (C, oC) :: (D, LCg.lst ys) :: news) → LCg.Off3 I C D news → ((@Ne Nat I C) ∧ (@Ne Nat I D) ∧ (@Ne Nat C D)) →
      wpAny (model prog w) A (isTrue ct (compEnvC scope cl C env) (eval ct (compEnvC scope cl C env))) (fun ok s' => ok = g i ∧ if ok = true then
          wpAny (model prog w) A (eval elt (compEnvC scope cl C env)) (fun y s₂ => (∃ t, y = .int (i : Int) t) ∧ ∃ h' tk', s₂ = { s with heap := h', toks := tk' } ∧ Fr h₀ L h' m ∧ News h₀ L h' ((I, oI) :: (C, oC) :: (D, LCg.lst ys) :: news)) E' s'
        else ∃ h' tk', s' = { s with heap := h', toks := tk' } ∧ Fr h₀ L h' m ∧ News h₀ L h' ((I, oI) :: (C, oC) :: (D, LCg.lst ys) :: news)) E' { s with heap := h, toks := tk })
    (fin : ∀ ys : List Value, IntsN ys ((List.range n).filter g) → Fin ys news) : LCt.CompRestT prog w A h₀ L m env ct elt x scope cl s S P Fin n 0 [] news := by
  have key : ∀ j i (ys : List Value), i + j = n → IntsN ys ((List.range i).filter g) → LCt.CompRestT prog w A h₀ L m env ct elt x scope cl s S P Fin j i ys news := by
    intro j
    induction j with
    | zero =>
      intro i ys hi hy
      exact LCt.CompRestT.zero (fin ys (by rw [show n = i by omega]; exact hy))
    | succ j ih =>
      intro i ys hi hy
      refine LCt.CompRestT.succ ?_
      intro v I oI C oC D m₂ h tk E' hv hC hx F N off ne
      have er : (List.range (i + 1)).filter g = (List.range i).filter g ++ (if g i = true then [i] else []) := by
        rw [List.range_succ, List.filter_append]
        congr 1
        by_cases c : g i = true <;> simp [c]
      refine wpAny_mono (turn i v I oI C oC D m₂ ys h tk E' (by k_extra "OM") hv hC hx F N off ne) (fun ok s₂ hq => ?_) fun _ _ e => e
      obtain ⟨hok, hq⟩ := hq
      cases ok with
      | true =>
        rw [if_pos rfl] at hq ⊢
        refine wpAny_mono hq (fun y s₃ hz => ?_) fun _ _ e => e
        obtain ⟨⟨t, rfl⟩, h', tk', rfl, F', N'⟩ := hz
        refine ⟨h', tk', news, rfl, F', N', off, hS, ih (i + 1) _ (by k_extra "OM") ?_⟩
        rw [er, if_pos hok.symm]
        exact hy.app (.cons .nil)
      | false =>
        rw [if_neg Bool.false_ne_true] at hq ⊢
        obtain ⟨h', tk', rfl, F', N'⟩ := hq
        refine ⟨h', tk', news, rfl, F', N', off, hS, ih (i + 1) _ (by k_extra "OM") ?_⟩
        rw [er, if_neg (by rw [← hok]; exact Bool.false_ne_true), List.append_nil]
        exact hy
  exact key n 0 [] (by k_extra "OM") .nil
end
/-- at the end of the building -/
structure LawE (prog : Program) (w : World) (KL : Addr) (n : Nat) (hs ss fs cv sv kv : List Value) (oF : Obj) (nt pt : List (Addr × Obj)) (Fx Ha Sa : List (Int × Int)) (ns : List Nd) : Prop where
  cH : CellsP (TupL nt) hs Ha
  cS : CellsP (TupL nt) ss Sa
  cC : CellsP (TupL nt) cv (ns.map (·.c))
  sP : StepsP pt sv (ns.map (·.ps))
  kP : KindsP kv (ns.map (·.kd))
  fP : FunsP prog w (TupL nt) Fx fs oF
  wf : ∃ rep root, WF (arOf Fx) Ha Sa ns rep root
  ln : ns.length = n
  lH : Ha.length ≤ 100
  lS : Sa.length ≤ 100
  lF : Fx.length ≤ 3000
  nn : ∀ c ∈ Fx, 0 ≤ c.2
  tn : ∀ q ∈ nt, q.2.cls = .type "tuple"
  tp : ∀ q ∈ pt, KL < q.1
inductive JE (prog : Program) (w : World) (H S FL CL SL KL st dst bk dbk : Addr) (fixL : List (Addr × Obj)) (n : Nat) (m : Str → Option Value) (news : List (Addr × Obj)) : Prop where
  | mk (hs : List Value) (nH : Nat) (ss : List Value) (nS : Nat) (fs : List Value) (n2 : Nat) (oF : Obj) (cv : List Value) (nC : Nat) (sv : List Value) (nSL : Nat) (kv : List Value) (nK : Nat) (nt pt : List (Addr × Obj)) (Fx Ha Sa : List (Int × Int)) (ns : List Nd) (ag : Agree m [(Str.ofString "store", .ref st), (Str.ofString "steps", .ref SL)]) (e : news = (H, listOf (List.toArray hs) nH) :: (S, listOf (List.toArray ss) nS) :: (FL, listOf (List.toArray fs) n2) :: (CL, listOf (List.toArray cv) nC) :: (SL, listOf (List.toArray sv) nSL) :: (KL, listOf (List.toArray kv) nK) :: (fixL ++ (pt ++ nt))) (LS : LawE prog w KL n hs ss fs cv sv kv oF nt pt Fx Ha Sa ns) : JE prog w H S FL CL SL KL st dst bk dbk fixL n m news
/-- the chain of bound things -/
inductive Chain (ns : List Nd) : Nat → Nat → Nat → Prop where
  | stop {k x} : ns[k]? = some x → x.kd ≠ 1 → Chain ns 0 k k
  | step {n k p r x} : ns[k]? = some x → x.kd = 1 → x.ps = [p] → Chain ns n p r → Chain ns (n + 1) k r
theorem WF.chain {Ar : List Nat} {H S : List (Int × Int)} {ns : List Nd} {rep : Nat → Int × Int} {root : Nat → Nat} (w : WF Ar H S ns rep root) {k : Nat} {x : Nd} (hx : ns[k]? = some x) : ∃ n, Chain ns n k (root k) := by
  obtain ⟨y, hy, h1, _, _, hp⟩ := w.root k x hx
  have key : ∀ {k r : Nat} {x y : Nd}, Path ns k r → ns[k]? = some x → ns[r]? = some y → y.kd ≠ 1 → root k = r → ∃ n, Chain ns n k r := by
    intro k r x y hp
    induction hp generalizing x with
    | refl => intro _ hy h1 _; exact ⟨0, .stop hy h1⟩
    | @step k p g z e m _ ih =>
      intro hx hy h1 hr
      obtain rfl : x = z := Option.some.inj (hx.symm.trans e)
      by_cases c : x.kd = 1
      · obtain ⟨q, e1, _, e3⟩ := w.bound _ _ hx c
        rw [e1] at m
        cases List.mem_singleton.mp m
        have := w.lt _ _ hx p (by rw [e1]; exact .head _)
        obtain ⟨n, hn⟩ := ih (List.getElem?_eq_getElem this) hy h1 (e3.trans hr)
        exact ⟨n + 1, .step hx c e1 hn⟩
      · obtain ⟨_, _, _, _, f, _⟩ := w.root k x hx
        have := (f c).symm.trans hr
        subst this
        exact ⟨0, .stop hx c⟩
  exact key hp hx hy h1 rfl
noncomputable def lawRest (k : Nat) : List Stmt := lawBody.drop k
noncomputable def isFree (ns : List Nd) (i : Nat) : Bool := match ns[i]? with | some x => x.kd == 2 | none => false
theorem kindS_free {k : Nat} (h : k ≤ 2) : (kindS k == Str.ofString "free") = (k == 2) := by
  obtain rfl | rfl | rfl : k = 0 ∨ k = 1 ∨ k = 2 := by omega
  all_goals decide +kernel
theorem kindS_bound {k : Nat} (h : k ≤ 2) : (kindS k == Str.ofString "bound") = (k == 1) := by
  obtain rfl | rfl | rfl : k = 0 ∨ k = 1 ∨ k = 2 := by omega
  all_goals decide +kernel
theorem kindS_comp {k : Nat} (h : k ≤ 2) : (kindS k == Str.ofString "compound") = (k == 0) := by
  obtain rfl | rfl | rfl : k = 0 ∨ k = 1 ∨ k = 2 := by omega
  all_goals decide +kernel
theorem free_mem {ns : List Nd} {n i : Nat} (h : i ∈ (List.range n).filter (isFree ns)) : i < n ∧ ∃ x, ns[i]? = some x ∧ x.kd = 2 := by
  rw [List.mem_filter] at h
  refine ⟨List.mem_range.mp h.1, ?_⟩
  have := h.2
  unfold isFree at this
  split at this
  · exact ⟨_, by assumption, by simpa using this⟩
  · cases this
theorem free_pos {ns : List Nd} {n : Nat} (hn : 0 < n) {x : Nd} (h0 : ns[0]? = some x) (hk : x.kd = 2) : 0 < ((List.range n).filter (isFree ns)).length := by
  apply List.length_pos_of_mem (a := 0)
  rw [List.mem_filter]
  refine ⟨List.mem_range.mpr hn, ?_⟩
  unfold isFree
  rw [h0]
  simp [hk]
noncomputable def ifBody (k : Nat) : List Stmt := match lawBody[k]? with | some (.If _ b _ _) => b | _ => []
noncomputable def ifRest (k j : Nat) : List Stmt := (ifBody k).drop j
inductive JB (prog : Program) (w : World) (wl : Nat) (U H S TX AN FL FN CL SL KL D st dst bk dbk : Addr) (fixL : List (Addr × Obj)) (ch ot : Nat) (i : Nat) (m : Str → Option Value) (news : List (Addr × Obj)) : Prop where
  | mk (x0 xi : Int) (t0 t1 : Tok) (nU : Nat) (hs : List Value) (nH : Nat) (ss : List Value) (nS : Nat) (ts : List Value) (n1 : Nat) (oA : Obj) (fs : List Value) (n2 : Nat) (oF : Obj) (cv : List Value) (nC : Nat) (sv : List Value) (nSL : Nat) (kv : List Value) (nK : Nat) (nt pt : List (Addr × Obj)) (Tx : List Str) (Fx Ha Sa : List (Int × Int)) (ns : List Nd) (ag : Agree m [(Str.ofString "urn", .ref U), (Str.ofString "book", .ref bk), (Str.ofString "store", .ref st), (Str.ofString "steps", .ref SL)]) (e : news = (U, listOf [.int x0 t0, .ref D, .int xi t1].toArray nU) :: (H, listOf (List.toArray hs) nH) :: (S, listOf (List.toArray ss) nS) :: (TX, listOf (List.toArray ts) n1) :: (AN, oA) :: (FL, listOf (List.toArray fs) n2) :: (FN, oF) :: (CL, listOf (List.toArray cv) nC) :: (SL, listOf (List.toArray sv) nSL) :: (KL, listOf (List.toArray kv) nK) :: (fixL ++ (pt ++ nt))) (LS : LawS prog w KL wl i x0 xi hs ss ts fs cv sv kv oA oF nt pt Tx Fx Ha Sa ns) (hx : (∃ xc : Nd, ns[ch]? = some xc ∧ xc.kd = 2)) (ho : ot < ns.length) : JB prog w wl U H S TX AN FL FN CL SL KL D st dst bk dbk fixL ch ot i m news
theorem map_set_c {ns : List Nd} {a : Nat} {x : Nd} {ps : List Nat} {k : Nat} (h : ns[a]? = some x) : (ns.set a ⟨x.c, ps, k⟩).map (·.c) = ns.map (·.c) := by
  rw [List.map_set]
  apply List.ext_getElem?
  intro i
  by_cases e : a = i
  · subst e
    rw [List.getElem?_set_self (by rw [List.length_map]; exact (List.getElem?_eq_some_iff.mp h).1), List.getElem?_map, h]
    rfl
  · rw [List.getElem?_set_ne e]
theorem map_set_ps {ns : List Nd} {a : Nat} {c : Int × Int} {ps : List Nat} {k : Nat} : (ns.set a ⟨c, ps, k⟩).map (·.ps) = (ns.map (·.ps)).set a ps := by rw [List.map_set]
theorem map_set_kd {ns : List Nd} {a : Nat} {c : Int × Int} {ps : List Nat} {k : Nat} : (ns.set a ⟨c, ps, k⟩).map (·.kd) = (ns.map (·.kd)).set a k := by rw [List.map_set]
noncomputable def bindBody : List Stmt := match ((ifBody 7)[5]? : Option Stmt) with | some (Stmt.If _ b _ _) => b | _ => []
section
variable {prog : Program} {w : World} {p : Program} {loose : List Str} {mean : ExcName → Option Value} {mg mb : Str → Option Value} {dp un : Nat} {gd : Option (List Code)} {a : Addr} {ccd : Value} {outer : List Env} {A₀ : Around} {base h₀ : Heap} {L : Addr} {m : Str → Option Value} {s₁ : Shared} {h₁ : Heap} {tk₁ : Nat} {Q : Flow → Shared → Prop}
  (B : Below A₀ base outer h₀) (X : (Mine.hd.heap_1 w.params).In h₀) (T : Top p loose mean mg mb h₀) (hd : dp + 60 < recursionLimit) (hu : un + 1200 < cLine)
include B X T hd hu
theorem ln38 : True := by
  (k_with "call ref" => ((k_here; (with_reducible show wpAny _ _ (call (Value.ref 154) _) _ _ _); refine stopHere ?_)))
  (k_with "call ref" => ((k_here; (with_reducible show wpAny _ _ (call (Value.ref 381) _) _ _ _); refine stopHere ?_)))
  (k_with "call ref" => ((k_here; (with_reducible show wpAny _ _ (call (Value.ref 411) _) _ _ _); refine stopHere ?_)))
  (k_with "call ref" => ((k_here; (with_reducible show wpAny _ _ (call (Value.ref 418) _) _ _ _); refine stopHere ?_)))
  (k_with "call ref" => ((k_here; (with_reducible show wpAny _ _ (call (Value.ref 109) _) _ _ _); refine stopHere ?_)))
  (k_with "call ref" => ((k_here; (with_reducible show wpAny _ _ (call (Value.ref 342) _) _ _ _); refine stopHere ?_)))
  (k_with "call ref" => ((k_here; (with_reducible show wpAny _ _ (call (Value.ref 209) _) _ _ _); refine stopHere ?_)))
  (k_with "call ref" => ((k_here; (with_reducible show wpAny _ _ (call (Value.ref 244) _) _ _ _); refine stopHere ?_)))
  (k_with "call ref" => ((k_here; (with_reducible show wpAny _ _ (call (Value.ref 279) _) _ _ _); refine stopHere ?_)))
  (k_with "call ref" => ((k_here; (with_reducible show wpAny _ _ (call (Value.ref 230) _) _ _ _); refine stopHere ?_)))
  (k_with "call ref" => ((k_here; (with_reducible show wpAny _ _ (call (Value.ref 397) _) _ _ _); refine stopHere ?_)))
  (k_with "call ref" => ((k_here; (with_reducible show wpAny _ _ (call (Value.ref 404) _) _ _ _); refine stopHere ?_)))
  (k_with "SEPL" => (((repeat' (first | assumption | exact sep_nil | refine sep_app ?_ ?_ | refine sep_cons ?_ ?_)); (all_goals first | exact sepOne (by assumption) | exact sepTwo (by assumption) (by assumption) | exact sepFour (by assumption) (by assumption) (by assumption) (by assumption) | ((repeat' (first | exact nmNil | refine nmCons ?_ ?_)); all_goals first | assumption | k_extra "NEC" | exact Ne.symm (by assumption) | exact News.ne (by with_reducible assumption) (by k_mem) (by k_mem) (ne_typ rfl))))))
  (k_with "GET" => (first | (refine' News.get ?n ?k; (case n => with_reducible assumption); (case k => ((repeat' (apply List.Mem.tail)); first | (exact List.mem_append_right _ (by with_reducible assumption)) | (exact List.mem_append_left _ (by with_reducible assumption)) | fail "no"))) | fail "no"))
  (k_with "subscriptTail" => ((k_here; (with_reducible show wpAny _ _ (subscriptTail _ _ (Value.ref _) (Value.int (List.getD _ _ _) _)) _ _ _); rw [getD_one]; k_dflt (refine' item_list ?k1 ?k2 ?k3 ?k4 ?_; (case k1 => is_list); (case k4 => first | assumption | exact rfl); (case k2 => k_extra "OM"); (case k3 => k_extra "OM")))))
  (k_with "subscriptTail" => ((k_here; (with_reducible show wpAny _ _ (subscriptTail _ _ (Value.ref _) (Value.int _ _)) _ _ _); k_dflt (refine' item_list ?k1 ?k2 ?k3 ?k4 ?_; (case k1 => is_list); (case k4 => first | assumption | exact rfl); (case k2 => k_extra "OM"); (case k3 => k_extra "OM")))))
  (k_with "exec While Compare" => (refine stopHere ?_))
  (k_with "exec While" => (refine stopHere ?_))
  trivial
theorem law_bindB {U H S TX AN FL FN CL SL KL D st dst bk dbk Tr : Addr} {ws : List Value} {wi : List Int} {kk2 uu kk : Nat → Tok} {o1c o2c : Obj} {n : Nat}  {ch ot : Nat} {tc to_ : Tok} {x0 xi : Int} {t0 t1 : Tok} {nU nH nS n1 n2 nC nSL nK : Nat} {hs ss ts fs cv sv kv : List Value} {oA oF : Obj} {nt pt : List (Addr × Obj)} {Tx : List Str} {Fx Ha Sa : List (Int × Int)} {ns : List Nd} {rep : Nat → Int × Int} {root : Nat → Nat} {xc yo : Nd}
    (hws : ws.length ≤ 50) (hI : IntsAre ws wi) (hn6 : Hid (n ≤ 6)) (hn2 : 2 ≤ n) (q1 : D < U) (q2 : U < dbk) (q3 : dbk < bk) (q4 : bk < TX) (q5 : TX < AN) (q6 : AN < FL) (q7 : FL < FN) (q8 : FN < dst) (q9 : dst < st) (q10 : st < H) (q11 : H < S) (q12 : S < CL) (q13 : CL < SL) (q14 : SL < KL) (q15 : L + 1 < D) (q16 : L + 1 + 1 < D)
    (hc1 : o1c.data = .cell (some (.ref CL))) (hc2 : o2c.data = .cell (some (.ref KL)))
    (LS : LawS prog w KL ws.length n x0 xi hs ss ts fs cv sv kv oA oF nt pt Tx Fx Ha Sa ns) (hxc : ns[ch]? = some xc) (kxc : xc.kd = 2) (hyo : ns[ot]? = some yo) (wf : WF (arOf Fx) Ha Sa ns rep root) (hjc : ¬ root ot = ch)
    (F₁ : Fr h₀ L h₁ (over [(Str.ofString "other", .int (ot : Int) to_), (Str.ofString "chosen", .int (ch : Int) tc), (Str.ofString "store", .ref st), (Str.ofString "steps", .ref SL)] m)) (N₁ : News h₀ L h₁ ((U, listOf [.int x0 t0, .ref D, .int xi t1].toArray nU) :: (H, listOf (hs).toArray nH) :: (S, listOf (ss).toArray nS) :: (TX, listOf (ts).toArray n1) :: (AN, oA) :: (FL, listOf (fs).toArray n2) :: (FN, oF) :: (CL, listOf cv.toArray nC) :: (SL, listOf sv.toArray nSL) :: (KL, listOf kv.toArray nK) :: (D, listOf ws.toArray 0) :: (st, instObj 381 dst) :: (dst, dictOf (stE w.params bk H S Tr kk2 uu) 7) :: (bk, instObj 154 dbk) :: (dbk, dictOf (bkE w.params TX AN FL FN kk) 4) :: (L + 1, o1c) :: (L + 1 + 1, o2c) :: (pt ++ nt)))
    (ret : ∀ h' tk m' news', JE prog w H S FL CL SL KL st dst bk dbk [(D, listOf ws.toArray 0), (st, instObj 381 dst), (dst, dictOf (stE w.params bk H S Tr kk2 uu) 7), (bk, instObj 154 dbk), (dbk, dictOf (bkE w.params TX AN FL FN kk) 4), (L + 1, o1c), (L + 1 + 1, o2c)] n m' news' → Fr h₀ L h' m' → News h₀ L h' news' → Q .next { s₁ with heap := h', toks := tk }) :
    wpAny (model prog w) (ktrTop dp un gd (Str.ofString "law") lawScope L a ccd (cellsFrom (L + 1) lawScope.names []) outer) (execs bindBody (envX (Str.ofString "law") lawScope L a ccd (cellsFrom (L + 1) lawScope.names []))) Q (fun _ _ => False) { s₁ with heap := h₁, toks := tk₁ } := by
  generalize hg1 : bindBody = bd
  generalize hg2 : lawScope = sc
  conv at hg1 => lhs; whnf
  conv at hg2 => lhs; whnf
  subst hg1
  subst hg2
  have q1' := ltN q1
  have q2' := ltN q2
  have q3' := ltN q3
  have q4' := ltN q4
  have q5' := ltN q5
  have q6' := ltN q6
  have q7' := ltN q7
  have q8' := ltN q8
  have q9' := ltN q9
  have q10' := ltN q10
  have q11' := ltN q11
  have q12' := ltN q12
  have q13' := ltN q13
  have q14' := ltN q14
  have q15' := ltN q15
  have q16' := ltN q16
  have hn6' : n ≤ 6 := hn6
  have lH := LS.lH
  have lS := LS.lS
  have lH' := LS.cH.length
  have lS' := LS.cS.length
  have lC' := LS.cC.length
  have lK' := LS.kP.length
  have lS4 := LS.sP.length
  rw [List.length_map] at lC' lK' lS4
  have ln4 := LS.ln
  have bkf := LS.bk.lf
  have hcl := (List.getElem?_eq_some_iff.mp hxc).1
  have hol := (List.getElem?_eq_some_iff.mp hyo).1
  have b1 : cv.length ≤ 100 := len6 lC' ln4 hn6'
  have b2 : kv.length ≤ 100 := len6 lK' ln4 hn6'
  have b4 : sv.length ≤ 100 := len6 lS4 ln4 hn6'
  have b5 : hs.length ≤ 100 := len36 lH' lH hn6'
  have b6 : ss.length ≤ 100 := len1 lS' lS hn6'
  have b7 : Ha.length ≤ 100 := len36 rfl lH hn6'
  have b8 : Sa.length ≤ 100 := len1 rfl lS hn6'
  have b9 : ch < 100 := lt6 hcl ln4 hn6'
  have c1 : ot < 100 := lt6 hol ln4 hn6'
  have c2 : ch < sv.length := ltAs hcl lS4
  have c3 : ch < kv.length := ltAs hcl lK'
  refine Classical.byContradiction fun nGo => ?_
  obtain ⟨v0, hv0, tv0⟩ := LS.cC.get (i := ot) (c := yo.c) (by rw [List.getElem?_map, hyo]; rfl)
  obtain ⟨vc, hvc, tvc⟩ := LS.cC.get (i := ch) (c := xc.c) (by rw [List.getElem?_map, hxc]; rfl)
  have hv0' : cv[((ot : Nat) : Int).toNat]? = some v0 := hv0
  have hvc' : cv[((ch : Nat) : Int).toNat]? = some vc := hvc
  clear hv0 hvc
  obtain ⟨nd, hder⟩ := wf.der ch xc hxc
  obtain ⟨hv, hro⟩ := wf.varOf hxc kxc hyo hjc
  refine nGo ?_; clear nGo
  have pH : ∀ q ∈ pt, q.1 ≠ H := abN (X := H) LS.tp (show @LT.lt Nat _ H KL by first | k_extra "LTC" | omega)
  have pS : ∀ q ∈ pt, q.1 ≠ S := abN (X := S) LS.tp (show @LT.lt Nat _ S KL by first | k_extra "LTC" | omega)
  have fH : ∀ q ∈ nt, q.1 ≠ H := News.neAll N₁ (by k_extra "SUBT") LS.tn (by k_mem) list_ne_tuple
  have fS : ∀ q ∈ nt, q.1 ≠ S := News.neAll N₁ (by k_extra "SUBT") LS.tn (by k_mem) list_ne_tuple
  have aKL : ∀ q ∈ pt ++ nt, q.1 ≠ KL := sep_app (abE LS.tp) (News.neAll N₁ (by k_extra "SUBT") LS.tn (by k_mem) list_ne_tuple)
  have aSL : ∀ q ∈ pt ++ nt, q.1 ≠ SL := sep_app (abN (X := SL) LS.tp q14) (News.neAll N₁ (by k_extra "SUBT") LS.tn (by k_mem) list_ne_tuple)
  k_extra "STEPS"
  rename News _ _ _ _ => N6
  have hTp : ∀ v c, TupL nt v c → TupG _ v c := fun v c t => t.at (News.sub N6 (by k_extra "SUBT"))
  refine Classical.byContradiction fun nGo => ?_
  obtain ⟨rc, trc, dvc⟩ := derV_of hTp LS.cH LS.cS (by k_extra "OM") (by k_extra "OM") hder tvc
  obtain ⟨ar, t5, t6, rfl, mar⟩ := id trc
  refine nGo ?_; clear nGo
  show wpAny _ _ _ _ _ _
  k_dflt (refine' deref_spec ?B ?F ?X ?T ?hk ?hd ?hu ?N ?hS ?hH ?hT ?hv ?_; k_extra "CTX"; (case hS => exact ⟨dst, Tr, kk2, uu, by k_extra "GET", by k_extra "GET"⟩); (case hH => exact ⟨_, by k_extra "GET"⟩); (case hT => exact ⟨_, by k_extra "GET"⟩); (case hv => exact dvc))
  clear N6 hTp dvc
  intro h' tk' F' N'
  k_extra "AFTER"
  by_cases h1 : (rep ch).1 = 1
  · obtain ⟨t, _⟩ | ⟨_, h0, e0⟩ := Lk.tag hv
    · rw [h1] at t; cases t
    have hlt := (List.getElem?_eq_some_iff.mp e0).1
    k_extra "STEPS"
    show wpAny _ _ _ _ _ _
    k_dflt (refine' bind1_spec (bk := bk) (H := H) (c := rep ch) ?B ?F ?X ?T ?hk ?hd ?hu ?N ?sep ?hS ?hl ?hv ?e0 ?e1 ?e2 ?_; k_extra "CTX2"; (case hS => exact ⟨dst, Tr, kk2, uu, by k_extra "GET", by k_extra "GET"⟩); (case N => exact News.at2 (by with_reducible assumption)); (case hv => exact ⟨ar, t5, t6, 0, rfl, by k_extra "GET"⟩); (case e0 => exact h1); (case e1 => exact h0); (case e2 => k_extra "OM"); (case hl => k_extra "OM"); (case sep => k_extra "SEPL"))
    intro h' tk' F' N'
    (try dsimp only [List.nil_append, List.cons_append, List.append_nil] at N')
    k_extra "AFTER"
    k_extra "STEPS"
    rename_i Q1 _ l9 _ F9 N9
    have hQ1 := ltN l9.2.2.2.2.2.2.2.2.2.1
    obtain ⟨tkb, N8⟩ : ∃ tkb, News h₀ L _ ((U, listOf [.int x0 t0, .ref D, .int xi t1].toArray nU) :: (H, listOf (hs).toArray nH) :: (S, listOf ((ss.set (rep ch).2.toNat v0)).toArray nS) :: (TX, listOf (ts).toArray n1) :: (AN, oA) :: (FL, listOf (fs).toArray n2) :: (FN, oF) :: (CL, listOf cv.toArray nC) :: (SL, listOf (sv.set ch (Value.ref Q1)).toArray nSL) :: (KL, listOf (kv.set ch (Value.str (kindS 1) tkb)).toArray nK) :: (D, listOf ws.toArray 0) :: (st, instObj 381 dst) :: (dst, dictOf (stE w.params bk H S Tr kk2 uu) 7) :: (bk, instObj 154 dbk) :: (dbk, dictOf (bkE w.params TX AN FL FN kk) 4) :: (L + 1, o1c) :: (L + 1 + 1, o2c) :: (((Q1, listOf [Value.int (ot : Int) to_].toArray 0) :: pt) ++ nt)) := ⟨_, News.sub N9 (by k_extra "SUB")⟩
    refine ret _ _ _ _ ⟨hs, nH, (ss.set (rep ch).2.toNat v0), nS, fs, n2, oF, cv, nC, sv.set ch (Value.ref Q1), nSL, kv.set ch (Value.str (kindS 1) tkb), nK, nt, (Q1, listOf [Value.int (ot : Int) to_].toArray 0) :: pt, Fx, Ha, (Sa.set (rep ch).2.toNat yo.c), ns.set ch ⟨xc.c, [ot], 1⟩, .cons ?_ (.cons ?_ .nil), rfl, ⟨LS.cH, CellsP.set tv0 LS.cS _, ?_, ?_, ?_, LS.fP, wf.bindS hxc kxc hyo hjc h1, by rw [List.length_set]; exact ln4, by omega, by rw [List.length_set]; omega, by omega, LS.bk.nn, LS.tn, sep_cons hQ1 LS.tp⟩⟩ F9 (News.sub N8 (by k_extra "SUB"))
    · rfl
    · rfl
    · rw [map_set_c hxc]
      exact LS.cC
    · rw [map_set_ps]
      exact (LS.sP.mono sub_cons_refl).set (.head _) (.cons .nil) ch
    · rw [map_set_kd]
      exact LS.kP.set ch
  · obtain ⟨h0t, h0, e0⟩ | ⟨t, _⟩ := Lk.tag hv
    case inr => exact absurd t h1
    obtain ⟨H1, S1, d1, rep1, hG, wf1, dr1, dt1, kp1, lh1, ls1⟩ := wf.lfh hyo
    have er : rep1 ch = rep ch := kp1 ch h1
    have hv1 := (wf1.free ch xc hxc kxc).2
    rw [er] at hv1
    obtain ⟨_, _, e1⟩ | ⟨t, _⟩ := Lk.tag hv1
    case inr => exact absurd t h1
    have hlt := (List.getElem?_eq_some_iff.mp e1).1
    k_extra "STEPS"
    rename News _ _ _ _ => N6
    show wpAny _ _ _ _ _ _
    k_dflt (refine' lfh_spec (bk := bk) (Tp := TupL nt) ?B ?F ?X ?T ?hk ?hd ?hu ?N ?sep ?hHS ?hS ?hTp ?cH ?cS ?tc ?hG ?bH ?bS ?_; k_extra "CTX2"; (case hS => exact ⟨dst, Tr, kk2, uu, by k_extra "GET", by k_extra "GET"⟩); (case N => exact News.two1 N6); (case hHS => k_extra "NEC"); (case hTp => exact fun v c t => t.at (News.sub N6 (by k_extra "SUBT"))); (case cH => exact LS.cH); (case cS => exact LS.cS); (case tc => exact tv0); (case hG => exact hG); (case bH => k_extra "OM"); (case bS => k_extra "OM"); (case sep => k_extra "SEPL"))
    clear N6
    intro h' tk' r nt' hs' ss' n1' n2' cH' cS' tr' hnt' F' N'
    have cH2 := cH'.fromQ
    have cS2 := cS'.fromQ
    have tr2 := TupL.ofQ tr'
    have tn2 := sep_app hnt' LS.tn
    have sb2 : ∀ x ∈ nt, x ∈ nt' ++ nt := fun x hx => List.mem_append_right _ hx
    have mar2 := sb2 _ mar
    have N7 : News h₀ L h' ((U, listOf [.int x0 t0, .ref D, .int xi t1].toArray nU) :: (H, listOf (hs').toArray n1') :: (S, listOf (ss').toArray n2') :: (TX, listOf (ts).toArray n1) :: (AN, oA) :: (FL, listOf (fs).toArray n2) :: (FN, oF) :: (CL, listOf cv.toArray nC) :: (SL, listOf sv.toArray nSL) :: (KL, listOf kv.toArray nK) :: (D, listOf ws.toArray 0) :: (st, instObj 381 dst) :: (dst, dictOf (stE w.params bk H S Tr kk2 uu) 7) :: (bk, instObj 154 dbk) :: (dbk, dictOf (bkE w.params TX AN FL FN kk) 4) :: (L + 1, o1c) :: (L + 1 + 1, o2c) :: (pt ++ (nt' ++ nt))) := News.sub N' (by k_extra "SUB")
    clear N' cH' cS' tr' hnt' mar
    generalize nt' ++ nt = ntx at *
    have cL2 := cH2.length
    have cL3 := cS2.length
    have xH : ∀ q ∈ ntx, q.1 ≠ H := News.neAll N7 (by k_extra "SUBT") tn2 (by k_mem) list_ne_tuple
    have aKL2 : ∀ q ∈ pt ++ ntx, q.1 ≠ KL := sep_app (abE LS.tp) (News.neAll N7 (by k_extra "SUBT") tn2 (by k_mem) list_ne_tuple)
    have aSL2 : ∀ q ∈ pt ++ ntx, q.1 ≠ SL := sep_app (abN (X := SL) LS.tp q14) (News.neAll N7 (by k_extra "SUBT") tn2 (by k_mem) list_ne_tuple)
    k_extra "AFTER"
    k_extra "STEPS"
    show wpAny _ _ _ _ _ _
    k_dflt (refine' bind0_spec (bk := bk) (S := S) (c := rep ch) ?B ?F ?X ?T ?hk ?hd ?hu ?N ?sep ?hS ?hl ?hv ?e0 ?e1 ?e2 ?_; k_extra "CTX2"; (case hS => exact ⟨dst, Tr, kk2, uu, by k_extra "GET", by k_extra "GET"⟩); (case N => exact News.at1 (by with_reducible assumption)); (case hv => exact ⟨ar, t5, t6, 0, rfl, by k_extra "GET"⟩); (case e0 => exact h0t); (case e1 => exact h0); (case e2 => k_extra "OM"); (case hl => k_extra "OM"); (case sep => k_extra "SEPL"))
    intro h' tk' F' N'
    (try dsimp only [List.nil_append, List.cons_append, List.append_nil] at N')
    k_extra "AFTER"
    k_extra "STEPS"
    rename_i Q1 _ l9 _ F9 N9
    have hQ1 := ltN l9.2.2.2.2.2.2.2.2.2.1
    obtain ⟨tkb, N8⟩ : ∃ tkb, News h₀ L _ ((U, listOf [.int x0 t0, .ref D, .int xi t1].toArray nU) :: (H, listOf ((hs'.set (rep ch).2.toNat r)).toArray n1') :: (S, listOf (ss').toArray n2') :: (TX, listOf (ts).toArray n1) :: (AN, oA) :: (FL, listOf (fs).toArray n2) :: (FN, oF) :: (CL, listOf cv.toArray nC) :: (SL, listOf (sv.set ch (Value.ref Q1)).toArray nSL) :: (KL, listOf (kv.set ch (Value.str (kindS 1) tkb)).toArray nK) :: (D, listOf ws.toArray 0) :: (st, instObj 381 dst) :: (dst, dictOf (stE w.params bk H S Tr kk2 uu) 7) :: (bk, instObj 154 dbk) :: (dbk, dictOf (bkE w.params TX AN FL FN kk) 4) :: (L + 1, o1c) :: (L + 1 + 1, o2c) :: (((Q1, listOf [Value.int (ot : Int) to_].toArray 0) :: pt) ++ ntx)) := ⟨_, News.sub N9 (by k_extra "SUB")⟩
    refine ret _ _ _ _ ⟨(hs'.set (rep ch).2.toNat r), n1', ss', n2', fs, n2, oF, cv, nC, sv.set ch (Value.ref Q1), nSL, kv.set ch (Value.str (kindS 1) tkb), nK, ntx, (Q1, listOf [Value.int (ot : Int) to_].toArray 0) :: pt, Fx, (H1.set (rep ch).2.toNat d1), S1, ns.set ch ⟨xc.c, [ot], 1⟩, .cons ?_ (.cons ?_ .nil), rfl, ⟨CellsP.set tr2 cH2 _, cS2, ?_, ?_, ?_, LS.fP.mono fun _ _ t => t.mono sb2, er ▸ wf1.bindH hxc kxc hyo hjc (er ▸ h0t) dr1 dt1, by rw [List.length_set]; exact ln4, by rw [List.length_set]; omega, by omega, by omega, LS.bk.nn, tn2, sep_cons hQ1 LS.tp⟩⟩ F9 (News.sub N8 (by k_extra "SUB"))
    · rfl
    · rfl
    · rw [map_set_c hxc]
      exact LS.cC.tmono sb2
    · rw [map_set_ps]
      exact (LS.sP.mono sub_cons_refl).set (.head _) (.cons .nil) ch
    · rw [map_set_kd]
      exact LS.kP.set ch
end
end Part31
section Part32
section
variable {prog : Program} {w : World} {p : Program} {loose : List Str} {mean : ExcName → Option Value} {mg mb : Str → Option Value} {dp un : Nat} {gd : Option (List Code)} {a : Addr} {ccd : Value} {outer : List Env} {A₀ : Around} {base h₀ : Heap} {L : Addr} {m : Str → Option Value} {s₁ : Shared} {h₁ : Heap} {tk₁ : Nat} {Q : Flow → Shared → Prop}
  (B : Below A₀ base outer h₀) (X : (Mine.hd.heap_1 w.params).In h₀) (T : Top p loose mean mg mb h₀) (hd : dp + 60 < recursionLimit) (hu : un + 1200 < cLine)
include B X T hd hu
theorem ln39 : True := by
  k_with_none
  (k_with "LIT0" => (first | with_reducible assumption | ((first | (with_reducible show @LE.le Nat _ (OfNat.ofNat _) (OfNat.ofNat _)) | (with_reducible show @LT.lt Nat _ (OfNat.ofNat _) (OfNat.ofNat _))); exact Nat.le_of_ble_eq_true rfl)))
  (k_with "LIT1" => (first | with_reducible assumption | (with_reducible refine' Nat.lt_of_lt_of_le ?ha ?hb; (case ha => with_reducible assumption); (case hb => k_extra "LIT0")) | (with_reducible refine' Nat.lt_of_le_of_lt ?ha ?hb; (case ha => with_reducible assumption); (case hb => k_extra "LIT0")) | (with_reducible refine' Nat.le_trans ?ha ?hb; (case ha => with_reducible assumption); (case hb => k_extra "LIT0")) | (with_reducible refine' Nat.le_of_lt (Nat.lt_of_lt_of_le ?ha ?hb); (case ha => with_reducible assumption); (case hb => k_extra "LIT0")) | (with_reducible refine' Nat.lt_of_le_of_lt (Nat.le_of_eq ?ha) ?hb; (case ha => with_reducible assumption); (case hb => k_extra "LIT0")) | (with_reducible refine' Nat.le_trans (Nat.le_of_eq ?ha) ?hb; (case ha => with_reducible assumption); (case hb => k_extra "LIT0"))))
  (k_with "LIT2" => (first | with_reducible assumption | (with_reducible refine' Nat.lt_of_lt_of_le ?ha ?hb; (case ha => with_reducible assumption); (case hb => k_extra "LIT1")) | (with_reducible refine' Nat.lt_of_le_of_lt ?ha ?hb; (case ha => with_reducible assumption); (case hb => k_extra "LIT1")) | (with_reducible refine' Nat.le_trans ?ha ?hb; (case ha => with_reducible assumption); (case hb => k_extra "LIT1")) | (with_reducible refine' Nat.le_of_lt (Nat.lt_of_lt_of_le ?ha ?hb); (case ha => with_reducible assumption); (case hb => k_extra "LIT1")) | (with_reducible refine' Nat.lt_of_le_of_lt (Nat.le_of_eq ?ha) ?hb; (case ha => with_reducible assumption); (case hb => k_extra "LIT1")) | (with_reducible refine' Nat.le_trans (Nat.le_of_eq ?ha) ?hb; (case ha => with_reducible assumption); (case hb => k_extra "LIT1"))))
  (k_with "OM" => (first | with_reducible assumption | with_reducible exact Int.natCast_nonneg _ | with_reducible exact Int.ofNat_lt.mpr (by with_reducible assumption) | with_reducible exact i63 (by k_extra "LIT2") | k_extra "LIT2" | omega))
  (k_with "LTC" => (first | with_reducible assumption | (refine' Nat.lt_trans ?ha ?hb; (case ha => with_reducible assumption); (case hb => k_extra "LTC"))))
  (k_with "NEC" => ((refine neN ?_; (try dsimp only); first | (refine' Nat.ne_of_lt ?hc; (case hc => k_extra "LTC")) | (refine' Nat.ne_of_gt ?hc; (case hc => k_extra "LTC")) | omega)))
  (k_with "ROOMN" => (first | (refine' roomN ?ha (Nat.add_assoc _ _ _) ?hb; (case ha => with_reducible assumption); (case hb => exact rfl)) | (refine' roomN ?ha rfl ?hb; (case ha => with_reducible assumption); (case hb => exact rfl)) | (refine' roomN ?ha ((Nat.add_assoc _ _ _).trans (Nat.add_assoc _ _ _)) ?hb; (case ha => with_reducible assumption); (case hb => exact rfl)) | exact Nat.lt_of_le_of_lt (Nat.le_add_right _ _) (by with_reducible assumption)))
  (k_with "MKUNITS" => (first | k_extra "ROOMN" | ktr_units))
  (k_with "MKNE" => (first | k_extra "NEC" | ((try dsimp only); assumption) | ((try dsimp only); exact Ne.symm (by assumption)) | ((try dsimp only); exact News.ne (by with_reducible assumption) (by k_mem) (by k_mem) (ne_typ rfl))))
  (k_with "MKALL" => (first | assumption | exact List.forall_mem_nil _ | (refine' List.forall_mem_cons.mpr ⟨?a, ?b⟩; (case a => k_ne); (case b => k_all))))
  (k_with "GET" => (first | exact Fr.keep (by with_reducible assumption) _ _ (by with_reducible assumption) | exact News.get (by with_reducible assumption) (by k_mem)))
  (k_with "MKINST" => (exact instG (by k_extra "GET") (by k_extra "GET")))
  (k_with "MISLIST" => (exact isListG (by k_extra "GET")))
  (k_with "ENTER" => (((case ks => assumption); (case k1 => assumption); (case k2 => assumption); (case k3 => assumption); (case k4 => assumption); (case kr => assumption); (case k5 => assumption); (case kK => assumption); (case k8 => first | k_extra "ROOMN" | ktr_room); (case k6 => k_is); (case k7 => k_is); (case k9 => exact BindsTo.of_eq rfl); (case kB => exact locs rfl); (case c2 => exact rfl); (case c3 => exact rfl); (case c4 => exact rfl); (case c5 => decide))))
  (k_with "subscriptTail" => ((k_here; (with_reducible show wpAny _ _ (subscriptTail _ _ (Value.ref _) (Value.int _ _)) _ _ _); k_dflt (refine' item_list ?k1 ?k2 ?k3 ?k4 ?_; (case k1 => is_list); (case k4 => assumption); (case k2 => k_extra "OM"); (case k3 => k_extra "OM")))))
  (k_with "subscriptTail" => ((k_here; (with_reducible show wpAny _ _ (subscriptTail _ _ (Value.ref _) (Value.int 1 _)) _ _ _); k_dflt (refine' item_tup1 ?k1 ?_; (case k1 => k_extra "GET")))))
  (k_with "subscriptTail" => ((k_here; (with_reducible show wpAny _ _ (subscriptTail _ _ (Value.ref _) (Value.int 0 _)) _ _ _); k_dflt (refine' item_tup0 ?k1 ?_; (case k1 => k_extra "GET")))))
  (k_with "compareOp Eq ref ref" => ((k_here; (with_reducible show wpAny _ _ (compareOp CmpOp.Eq (Value.ref _) (Value.ref _)) _ _ _); k_dflt (refine' eq_tup ?k1 ?k2 ?k3 ?_; (case k1 => k_extra "GET"); (case k2 => k_extra "GET"); (case k3 => k_units)))))
  (k_with "ite" => (first | (refine ite_pos ?c ?_; (case c => ((try simp only [decide_eq_true_eq, beq_iff_eq, Bool.not_eq_true', decide_eq_false_iff_not, ne_eq]); first | assumption | omega))) | (refine ite_neg ?c ?_; (case c => ((try simp only [decide_eq_true_eq, beq_iff_eq, Bool.not_eq_true', decide_eq_false_iff_not, ne_eq]); first | assumption | omega)))))
  (k_with "execs cons" => (((with_reducible refine wpAny_execs_cons ?_); (try dsimp only); k_fold)))
  (k_with "STEPS" => (((try k_fold); (repeat' (first | walk1 | (k_unfold; (try dsimp only)) | (dsimp only; walk1))); (all_goals (try dsimp only)))))
  (k_with "LV" => (((try dsimp only [WhileStep2]); refine' LeaveM.mk ?k1 ?k2 ?_; (case k1 => with_reducible assumption); (case k2 => with_reducible assumption); intro _ nK; (try dsimp only [List.nil_append, List.cons_append] at nK); revert nK; intro _; (try dsimp only))))
  (k_with "ROOM" => (first | k_extra "ROOMN" | (simp only [recursionLimit, cLine] at *; omega)))
  (k_with "CTX" => (((case B => with_reducible assumption); (case F => with_reducible assumption); (case X => with_reducible assumption); (case T => with_reducible assumption); (case hk => first | exact rfl | assumption); (case hd => k_extra "ROOM"); (case hu => k_extra "ROOM"); (case N => with_reducible assumption))))
  (k_with "KEEP" => (first | with_reducible assumption | exact DerV.keep (by with_reducible assumption) (Fr.keep (by with_reducible assumption)) | exact Sto.keep (by with_reducible assumption) (Fr.keep (by with_reducible assumption)) | exact Bok.keep (by with_reducible assumption) (Fr.keep (by with_reducible assumption)) | exact TupG.keep (by with_reducible assumption) (Fr.keep (by with_reducible assumption)) | exact ⟨_, by k_extra "GET"⟩ | exact ⟨_, _, _, _, rfl, by k_extra "GET"⟩ | assumption))
  (k_with "AFTER" => (((try dsimp only); (try k_sweep))))
  (k_with "call builtin:len" => ((k_here; (with_reducible show wpAny _ _ (call (Value.builtin "len") [Value.ref _]) _ _ _); k_dflt (refine' len_any ?k1 ?k2 ?_; (case k1 => is_list); (case k2 => first | with_reducible assumption | ((try simp only [List.length_append, List.length_cons, List.length_nil, List.length_set]); omega))))))
  (k_with "call builtin:list.append" => ((k_here; (with_reducible show wpAny _ _ (call (Value.builtin _) [Value.ref _, _]) _ _ _); k_dflt (refine' append_any ?k1 ?k2 ?k3 ?_ ?z; (case k1 => k_asm); (case k2 => k_asm); (case k3 => k_upd); (case z => first | with_reducible assumption | ((try simp only [List.length_append, List.length_cons, List.length_nil, List.length_set]); omega)); k_whole); intro _ _ _; (try k_sweep))))
  (k_with "setItem ref int" => ((k_here; (with_reducible show wpAny _ _ (setItem (Value.ref _) (Value.int _ _) _) _ _ _); k_dflt (refine' set_any ?k1 ?k2 ?k3 ?k4 ?k5 ?k6 ?_; (case k1 => k_asm); (case k2 => k_asm); (case k3 => k_upd); (case k4 => k_extra "OM"); (case k5 => first | with_reducible assumption | ((try simp only [List.length_append, List.length_cons, List.length_nil, List.length_set]); omega)); (case k6 => k_extra "OM"); k_whole); intro _ _ _; (try k_sweep))))
  (k_with "CTX2" => (((case B => with_reducible assumption); (case F => with_reducible assumption); (case X => with_reducible assumption); (case T => with_reducible assumption); (case hk => first | exact rfl | assumption); (case hd => k_extra "ROOM"); (case hu => k_extra "ROOM"))))
  (k_with "SEP" => (((repeat' (first | assumption | exact sep_nil | refine sep_app ?_ ?_ | refine sep_cons ?_ ?_)); (all_goals ((repeat' (first | exact nmNil | refine nmCons ?_ ?_)); all_goals first | assumption | k_extra "NEC" | exact Ne.symm (by assumption) | exact News.ne (by with_reducible assumption) (by k_mem) (by k_mem) (ne_typ rfl))))))
  (k_with "SPLIT1" => (first | (refine' News.at0 ?n; (case n => with_reducible assumption)) | (refine' News.at1 ?n; (case n => with_reducible assumption)) | (refine' News.at2 ?n; (case n => with_reducible assumption)) | (refine' News.at3 ?n; (case n => with_reducible assumption)) | (refine' News.at4 ?n; (case n => with_reducible assumption)) | (refine' News.at5 ?n; (case n => with_reducible assumption)) | (refine' News.at6 ?n; (case n => with_reducible assumption))))
  (k_with "pyIter ref" => (refine stopHere ?_))
  (k_with "SEPI" => (((repeat' (first | assumption | exact sep_nil | refine sep_app ?_ ?_ | refine sep_cons ?_ ?_)); (all_goals ((try dsimp only); first | assumption | k_extra "NEC" | exact Ne.symm (by assumption))))))
  (k_with "SUBT" => (first | exact sub_refl | (refine sub_cons ?_; k_extra "SUBT") | (refine sub_right ?_; k_extra "SUBT") | (refine sub_left ?_; k_extra "SUBT")))
  (k_with "MEM" => (first | exact memH | (with_reducible refine List.mem_append_right _ ?_; k_extra "MEM") | (with_reducible refine List.mem_append_left _ ?_; k_extra "MEM") | (with_reducible refine memT ?_; k_extra "MEM")))
  (k_with "SUBT2" => (first | exact sub_refl | (with_reducible refine sub_right ?_; k_extra "SUBT2") | (with_reducible refine sub_left ?_; k_extra "SUBT2") | (with_reducible refine sub_cons ?_; k_extra "SUBT2")))
  (k_with "SUBM" => (((repeat' (first | exact sep_nil | refine sep_app ?_ ?_ | refine sep_cons ?_ ?_)); (all_goals first | k_extra "MEM" | k_extra "SUBT2"))))
  (k_with "SUB" => (((repeat' (first | exact sep_nil | refine sep_app ?_ ?_ | refine sep_cons ?_ ?_)); (all_goals first | k_mem | k_extra "MEM" | k_extra "SUBT2" | (simp only [List.mem_append, List.mem_cons, List.not_mem_nil, true_or, or_true, or_false, false_or]; done) | (intro _ hx9; simp only [hx9, List.mem_append, List.mem_cons, List.not_mem_nil, true_or, or_true, or_false, false_or]; done) | k_extra "SUBT"))))
  (k_with "exec For Name Name cons nil" => ((k_here; (with_unfolding_all refine' For_invVF ?kF ?k1 ?k2 ?_; (case kF => assumption); (case k1 => exact rfl); (case k2 => exact rfl); k_whole))))
  (k_with "exec For Name Call cons nil" => ((k_here; (with_unfolding_all refine' For_invVF ?kF ?k1 ?k2 ?_; (case kF => assumption); (case k1 => exact rfl); (case k2 => exact rfl); k_whole))))
  (k_with "exec For Name Subscript cons nil" => ((k_here; (with_unfolding_all refine' For_invVF ?kF ?k1 ?k2 ?_; (case kF => assumption); (case k1 => exact rfl); (case k2 => exact rfl); k_whole))))
  (k_with "exec For Name Attribute cons nil" => ((k_here; (with_unfolding_all refine' For_invVF ?kF ?k1 ?k2 ?_; (case kF => assumption); (case k1 => exact rfl); (case k2 => exact rfl); k_whole))))
  (k_with "KEEP" => (first | with_reducible assumption | exact DerV.keep (by with_reducible assumption) (Fr.keep (by with_reducible assumption)) | exact Sto.keep (by with_reducible assumption) (Fr.keep (by with_reducible assumption)) | exact Bok.keep (by with_reducible assumption) (Fr.keep (by with_reducible assumption)) | exact TupG.keep (by with_reducible assumption) (Fr.keep (by with_reducible assumption)) | exact ⟨_, by k_extra "GET"⟩ | exact ⟨_, _, _, _, rfl, by k_extra "GET"⟩ | assumption))
  (k_with "call ref" => ((k_here; (with_reducible show wpAny _ _ (call (Value.ref 154) _) _ _ _); refine stopHere ?_)))
  (k_with "call ref" => ((k_here; (with_reducible show wpAny _ _ (call (Value.ref 381) _) _ _ _); refine stopHere ?_)))
  (k_with "call ref" => ((k_here; (with_reducible show wpAny _ _ (call (Value.ref 411) _) _ _ _); refine stopHere ?_)))
  (k_with "call ref" => ((k_here; (with_reducible show wpAny _ _ (call (Value.ref 418) _) _ _ _); refine stopHere ?_)))
  (k_with "call ref" => ((k_here; (with_reducible show wpAny _ _ (call (Value.ref 109) _) _ _ _); refine stopHere ?_)))
  (k_with "call ref" => ((k_here; (with_reducible show wpAny _ _ (call (Value.ref 342) _) _ _ _); refine stopHere ?_)))
  (k_with "call ref" => ((k_here; (with_reducible show wpAny _ _ (call (Value.ref 209) _) _ _ _); refine stopHere ?_)))
  (k_with "call ref" => ((k_here; (with_reducible show wpAny _ _ (call (Value.ref 244) _) _ _ _); refine stopHere ?_)))
  (k_with "call ref" => ((k_here; (with_reducible show wpAny _ _ (call (Value.ref 279) _) _ _ _); refine stopHere ?_)))
  (k_with "call ref" => ((k_here; (with_reducible show wpAny _ _ (call (Value.ref 230) _) _ _ _); refine stopHere ?_)))
  (k_with "call ref" => ((k_here; (with_reducible show wpAny _ _ (call (Value.ref 397) _) _ _ _); refine stopHere ?_)))
  (k_with "call ref" => ((k_here; (with_reducible show wpAny _ _ (call (Value.ref 404) _) _ _ _); refine stopHere ?_)))
  (k_with "SEPL" => (((repeat' (first | assumption | exact sep_nil | refine sep_app ?_ ?_ | refine sep_cons ?_ ?_)); (all_goals first | exact sepOne (by assumption) | exact sepTwo (by assumption) (by assumption) | exact sepFour (by assumption) (by assumption) (by assumption) (by assumption) | ((repeat' (first | exact nmNil | refine nmCons ?_ ?_)); all_goals first | assumption | k_extra "NEC" | exact Ne.symm (by assumption) | exact News.ne (by with_reducible assumption) (by k_mem) (by k_mem) (ne_typ rfl))))))
  (k_with "CompSrcT" => (refine stopHere ?_))
  (k_with "CompSrc" => (refine stopHere ?_))
  (k_with "execs cons" => (((with_reducible show wpAny _ _ (execs (Stmt.Assign [Expr.Name (Str.ofString "value") _] _ _ :: _) _) _ _ _); refine stopHere ?_)))
  (k_with "GET" => (first | (refine' News.get ?n ?k; (case n => with_reducible assumption); (case k => ((repeat' (apply List.Mem.tail)); first | (exact List.mem_append_right _ (by with_reducible assumption)) | (exact List.mem_append_left _ (by with_reducible assumption)) | fail "no"))) | fail "no"))
  (k_with "subscriptTail" => ((k_here; (with_reducible show wpAny _ _ (subscriptTail _ _ (Value.ref _) (Value.int (List.getD _ _ _) _)) _ _ _); rw [getD_one]; k_dflt (refine' item_list ?k1 ?k2 ?k3 ?k4 ?_; (case k1 => is_list); (case k4 => first | assumption | exact rfl); (case k2 => k_extra "OM"); (case k3 => k_extra "OM")))))
  (k_with "subscriptTail" => ((k_here; (with_reducible show wpAny _ _ (subscriptTail _ _ (Value.ref _) (Value.int _ _)) _ _ _); k_dflt (refine' item_list ?k1 ?k2 ?k3 ?k4 ?_; (case k1 => is_list); (case k4 => first | assumption | exact rfl); (case k2 => k_extra "OM"); (case k3 => k_extra "OM")))))
  (k_with "exec While Compare" => (refine stopHere ?_))
  (k_with "exec While" => (refine stopHere ?_))
  trivial
theorem law_bindA {U H S TX AN FL FN CL SL KL D st dst bk dbk Tr : Addr} {ws : List Value} {wi : List Int} {kk2 uu kk : Nat → Tok} {o1c o2c : Obj} {n : Nat} {news : List (Addr × Obj)} {ch ot : Nat} {tc to_ : Tok}
    (hws : ws.length ≤ 50) (hI : IntsAre ws wi) (hn6 : Hid (n ≤ 6)) (hn2 : 2 ≤ n) (q1 : D < U) (q2 : U < dbk) (q3 : dbk < bk) (q4 : bk < TX) (q5 : TX < AN) (q6 : AN < FL) (q7 : FL < FN) (q8 : FN < dst) (q9 : dst < st) (q10 : st < H) (q11 : H < S) (q12 : S < CL) (q13 : CL < SL) (q14 : SL < KL) (q15 : L + 1 < D) (q16 : L + 1 + 1 < D)
    (hc1 : o1c.data = .cell (some (.ref CL))) (hc2 : o2c.data = .cell (some (.ref KL)))
    (hJ : JB prog w ws.length U H S TX AN FL FN CL SL KL D st dst bk dbk [(D, listOf ws.toArray 0), (st, instObj 381 dst), (dst, dictOf (stE w.params bk H S Tr kk2 uu) 7), (bk, instObj 154 dbk), (dbk, dictOf (bkE w.params TX AN FL FN kk) 4), (L + 1, o1c), (L + 1 + 1, o2c)] ch ot n m news) (F₁ : Fr h₀ L h₁ (over [(Str.ofString "other", .int (ot : Int) to_), (Str.ofString "chosen", .int (ch : Int) tc)] m)) (N₁ : News h₀ L h₁ news)
    (ret : ∀ h' tk m' news', JE prog w H S FL CL SL KL st dst bk dbk [(D, listOf ws.toArray 0), (st, instObj 381 dst), (dst, dictOf (stE w.params bk H S Tr kk2 uu) 7), (bk, instObj 154 dbk), (dbk, dictOf (bkE w.params TX AN FL FN kk) 4), (L + 1, o1c), (L + 1 + 1, o2c)] n m' news' → Fr h₀ L h' m' → News h₀ L h' news' → Q .next { s₁ with heap := h', toks := tk }) :
    wpAny (model prog w) (ktrTop dp un gd (Str.ofString "law") lawScope L a ccd (cellsFrom (L + 1) lawScope.names []) outer) (execs (ifRest 7 3) (envX (Str.ofString "law") lawScope L a ccd (cellsFrom (L + 1) lawScope.names []))) Q (fun _ _ => False) { s₁ with heap := h₁, toks := tk₁ } := by
  generalize hg1 : ifRest 7 3 = bd
  generalize hg2 : lawScope = sc
  conv at hg1 => lhs; whnf
  conv at hg2 => lhs; whnf
  subst hg1
  subst hg2
  refine Classical.byContradiction fun nGo => ?_
  obtain ⟨x0, xi, t0, t1, nU, hs, nH, ss, nS, ts, n1, oA, fs, n2, oF, cv, nC, sv, nSL, kv, nK, nt, pt, Tx, Fx, Ha, Sa, ns, ag, rfl, LS, ⟨xc, hxc, kxc⟩, hot⟩ := hJ
  rw [ag.form] at F₁
  dsimp only [List.cons_append, List.nil_append] at N₁
  have q1' := ltN q1
  have q2' := ltN q2
  have q3' := ltN q3
  have q4' := ltN q4
  have q5' := ltN q5
  have q6' := ltN q6
  have q7' := ltN q7
  have q8' := ltN q8
  have q9' := ltN q9
  have q10' := ltN q10
  have q11' := ltN q11
  have q12' := ltN q12
  have q13' := ltN q13
  have q14' := ltN q14
  have q15' := ltN q15
  have q16' := ltN q16
  have hn6' : n ≤ 6 := hn6
  have lH := LS.lH
  have lS := LS.lS
  have lH' := LS.cH.length
  have lS' := LS.cS.length
  have lC' := LS.cC.length
  have lK' := LS.kP.length
  have lS4 := LS.sP.length
  rw [List.length_map] at lC' lK' lS4
  have ln4 := LS.ln
  have b1 : cv.length ≤ 100 := len6 lC' ln4 hn6'
  have b2 : kv.length ≤ 100 := len6 lK' ln4 hn6'
  have b4 : sv.length ≤ 100 := len6 lS4 ln4 hn6'
  have b5 : hs.length ≤ 100 := len36 lH' lH hn6'
  have b6 : ss.length ≤ 100 := len1 lS' lS hn6'
  have b7 : Ha.length ≤ 100 := len36 rfl lH hn6'
  have b8 : Sa.length ≤ 100 := len1 rfl lS hn6'
  obtain ⟨rep, root, wf⟩ := LS.wf
  obtain ⟨yo, hyo⟩ : ∃ yo, ns[ot]? = some yo := ⟨_, List.getElem?_eq_getElem hot⟩
  obtain ⟨nc, hch⟩ := wf.chain hyo
  refine nGo ?_; clear nGo
  k_extra "STEPS"
  rename Fr _ _ _ _ => F9
  rename News _ _ _ _ => N9
  show wpAny _ _ _ _ _ _
  refine While_inv2 (fun fu m' news' => ∃ (j : Nat) (tj : Tok), Chain ns fu j (root ot) ∧ Agree m' [(Str.ofString "last", .int (j : Int) tj), (Str.ofString "other", .int (ot : Int) to_), (Str.ofString "chosen", .int (ch : Int) tc), (Str.ofString "urn", .ref U), (Str.ofString "book", .ref bk), (Str.ofString "store", .ref st), (Str.ofString "steps", .ref SL)] ∧ news' = ((U, listOf [.int x0 t0, .ref D, .int xi t1].toArray nU) :: (H, listOf (hs).toArray nH) :: (S, listOf (ss).toArray nS) :: (TX, listOf (ts).toArray n1) :: (AN, oA) :: (FL, listOf (fs).toArray n2) :: (FN, oF) :: (CL, listOf cv.toArray nC) :: (SL, listOf sv.toArray nSL) :: (KL, listOf kv.toArray nK) :: (D, listOf ws.toArray 0) :: (st, instObj 381 dst) :: (dst, dictOf (stE w.params bk H S Tr kk2 uu) 7) :: (bk, instObj 154 dbk) :: (dbk, dictOf (bkE w.params TX AN FL FN kk) 4) :: (L + 1, o1c) :: (L + 1 + 1, o2c) :: (pt ++ nt))) F9 N9 ⟨ot, to_, hch, .cons rfl (.cons rfl (.cons rfl (.cons rfl (.cons rfl (.cons rfl (.cons rfl .nil)))))), rfl⟩ ?_ (by with_unfolding_all passes_own)
  intro fu m₂ news₂ h₂ tk₂ F₂ N₂ hR7; obtain ⟨j, tj, hcj, ag2, rfl⟩ := hR7
  rw [ag2.form] at F₂
  clear F9 N9
  show wpAny _ _ _ _ _ _
  cases hcj with
  | @stop _ yj hyj kyj =>
    have hrl := (List.getElem?_eq_some_iff.mp hyj).1
    refine Classical.byContradiction fun nGo => ?_
    obtain ⟨vhkv, hkv⟩ : ∃ v, kv[root ot]? = some v := ⟨_, List.getElem?_eq_getElem (by k_extra "OM")⟩
    obtain ⟨kd, tkd, e1, e2⟩ := LS.kP.get hkv
    rw [List.getElem?_map, hyj] at e1
    obtain rfl : yj.kd = kd := Option.some.inj e1
    refine nGo ?_; clear nGo
    rw [e2] at hkv
    have hkv' : kv[((root ot : Nat) : Int).toNat]? = some (.str (kindS yj.kd) tkd) := hkv
    have hkb : (kindS yj.kd == Str.ofString "bound") = false := by rw [kindS_bound (wf.kds _ _ hyj)]; simpa using kyj
    clear e2 hkv e1
    k_extra "STEPS"
    · rename_i hjc
      show wpAny _ _ _ _ _ _
      refine wpAny_mono (law_bindB (Q := fun fl s' => fl = .next ∧ Q .next s') (to_ := to_) (tc := tc) (rep := rep) (root := root) (ch := ch) (ot := ot) (kk := kk) (uu := uu) (kk2 := kk2) (Tr := Tr) B X T hd hu hws hI hn6 hn2 q1 q2 q3 q4 q5 q6 q7 q8 q9 q10 q11 q12 q13 q14 q15 q16 hc1 hc2 LS hxc kxc hyo wf (fun e => hjc (by rw [e])) (Mine.Fr.form (by assumption) (.cons ?_ (.cons ?_ (.cons ?_ (.cons ?_ .nil))))) (by assumption) (fun h' tk m' news' hE F N => ⟨rfl, ret _ _ _ _ hE F N⟩)) (fun fl s' hz => ?_) (fun _ _ e => e.elim)
      case refine_5 =>
        obtain ⟨rfl, hz⟩ := hz
        k_extra "STEPS"
        exact hz
      all_goals rfl
    · exact ret _ _ _ _ ⟨hs, nH, ss, nS, fs, n2, oF, cv, nC, sv, nSL, kv, nK, nt, pt, Fx, Ha, Sa, ns, .cons (ag2 _ (.tail _ (.tail _ (.tail _ (.tail _ (.tail _ (.head _))))))) (.cons (ag2 _ (.tail _ (.tail _ (.tail _ (.tail _ (.tail _ (.tail _ (.head _)))))))) .nil), rfl, ⟨LS.cH, LS.cS, LS.cC, LS.sP, LS.kP, LS.fP, LS.wf, LS.ln, by omega, by omega, by have := LS.bk.lf; omega, LS.bk.nn, LS.tn, LS.tp⟩⟩ (ag2.form ▸ F₂) (News.sub N₂ (by k_extra "SUB"))
  | @step fu' _ p _ yj hyj kyj pyj hcp =>
    have hjl := (List.getElem?_eq_some_iff.mp hyj).1
    have hkv : kv[j]? = some kv[j] := List.getElem?_eq_getElem (by k_extra "OM")
    refine Classical.byContradiction fun nGo => ?_
    obtain ⟨kd, tkd, e1, e2⟩ := LS.kP.get hkv
    rw [List.getElem?_map, hyj] at e1
    obtain rfl : yj.kd = kd := Option.some.inj e1
    rw [e2] at hkv
    have hkv' : kv[((j : Nat) : Int).toNat]? = some (.str (kindS yj.kd) tkd) := hkv
    have hkb : (kindS yj.kd == Str.ofString "bound") = true := by rw [kindS_bound (wf.kds _ _ hyj), kyj]; rfl
    have hsv : sv[j]? = some sv[j] := List.getElem?_eq_getElem (by k_extra "OM")
    obtain ⟨pa, pvs, pn, pps, e3, e4, e5, e6⟩ := LS.sP.get hsv
    rw [List.getElem?_map, hyj] at e3
    obtain rfl : yj.ps = pps := Option.some.inj e3
    rw [e4] at hsv
    have hsv' : sv[((j : Nat) : Int).toNat]? = some (.ref pa) := hsv
    rw [pyj] at e6
    obtain ⟨tp, rfl⟩ := e6.one
    refine nGo ?_; clear nGo
    clear e2 hkv e1 e4 hsv e3
    k_extra "STEPS"
    exact ⟨_, _, _, _, fu', rfl, by assumption, by assumption, Nat.lt_succ_self _, p, tp, hcp, .cons rfl (.cons rfl (.cons rfl (.cons rfl (.cons rfl (.cons rfl (.cons rfl .nil)))))), rfl⟩
end
end Part32
section Part33
theorem ln40 : True := by
  k_with_none
  (k_with "LIT0" => (first | with_reducible assumption | ((first | (with_reducible show @LE.le Nat _ (OfNat.ofNat _) (OfNat.ofNat _)) | (with_reducible show @LT.lt Nat _ (OfNat.ofNat _) (OfNat.ofNat _))); exact Nat.le_of_ble_eq_true rfl)))
  (k_with "LIT1" => (first | with_reducible assumption | (with_reducible refine' Nat.lt_of_lt_of_le ?ha ?hb; (case ha => with_reducible assumption); (case hb => k_extra "LIT0")) | (with_reducible refine' Nat.lt_of_le_of_lt ?ha ?hb; (case ha => with_reducible assumption); (case hb => k_extra "LIT0")) | (with_reducible refine' Nat.le_trans ?ha ?hb; (case ha => with_reducible assumption); (case hb => k_extra "LIT0")) | (with_reducible refine' Nat.le_of_lt (Nat.lt_of_lt_of_le ?ha ?hb); (case ha => with_reducible assumption); (case hb => k_extra "LIT0")) | (with_reducible refine' Nat.lt_of_le_of_lt (Nat.le_of_eq ?ha) ?hb; (case ha => with_reducible assumption); (case hb => k_extra "LIT0")) | (with_reducible refine' Nat.le_trans (Nat.le_of_eq ?ha) ?hb; (case ha => with_reducible assumption); (case hb => k_extra "LIT0"))))
  (k_with "LIT2" => (first | with_reducible assumption | (with_reducible refine' Nat.lt_of_lt_of_le ?ha ?hb; (case ha => with_reducible assumption); (case hb => k_extra "LIT1")) | (with_reducible refine' Nat.lt_of_le_of_lt ?ha ?hb; (case ha => with_reducible assumption); (case hb => k_extra "LIT1")) | (with_reducible refine' Nat.le_trans ?ha ?hb; (case ha => with_reducible assumption); (case hb => k_extra "LIT1")) | (with_reducible refine' Nat.le_of_lt (Nat.lt_of_lt_of_le ?ha ?hb); (case ha => with_reducible assumption); (case hb => k_extra "LIT1")) | (with_reducible refine' Nat.lt_of_le_of_lt (Nat.le_of_eq ?ha) ?hb; (case ha => with_reducible assumption); (case hb => k_extra "LIT1")) | (with_reducible refine' Nat.le_trans (Nat.le_of_eq ?ha) ?hb; (case ha => with_reducible assumption); (case hb => k_extra "LIT1"))))
  (k_with "OM" => (first | with_reducible assumption | with_reducible exact Int.natCast_nonneg _ | with_reducible exact Int.ofNat_lt.mpr (by with_reducible assumption) | with_reducible exact i63 (by k_extra "LIT2") | k_extra "LIT2" | omega))
  (k_with "LTC" => (first | with_reducible assumption | (refine' Nat.lt_trans ?ha ?hb; (case ha => with_reducible assumption); (case hb => k_extra "LTC"))))
  (k_with "NEC" => ((refine neN ?_; (try dsimp only); first | (refine' Nat.ne_of_lt ?hc; (case hc => k_extra "LTC")) | (refine' Nat.ne_of_gt ?hc; (case hc => k_extra "LTC")) | omega)))
  (k_with "ROOMN" => (first | (refine' roomN ?ha (Nat.add_assoc _ _ _) ?hb; (case ha => with_reducible assumption); (case hb => exact rfl)) | (refine' roomN ?ha rfl ?hb; (case ha => with_reducible assumption); (case hb => exact rfl)) | (refine' roomN ?ha ((Nat.add_assoc _ _ _).trans (Nat.add_assoc _ _ _)) ?hb; (case ha => with_reducible assumption); (case hb => exact rfl)) | exact Nat.lt_of_le_of_lt (Nat.le_add_right _ _) (by with_reducible assumption)))
  (k_with "MKUNITS" => (first | k_extra "ROOMN" | ktr_units))
  (k_with "MKNE" => (first | k_extra "NEC" | ((try dsimp only); assumption) | ((try dsimp only); exact Ne.symm (by assumption)) | ((try dsimp only); exact News.ne (by with_reducible assumption) (by k_mem) (by k_mem) (ne_typ rfl))))
  (k_with "MKALL" => (first | assumption | exact List.forall_mem_nil _ | (refine' List.forall_mem_cons.mpr ⟨?a, ?b⟩; (case a => k_ne); (case b => k_all))))
  (k_with "GET" => (first | exact Fr.keep (by with_reducible assumption) _ _ (by with_reducible assumption) | exact News.get (by with_reducible assumption) (by k_mem)))
  (k_with "MKINST" => (exact instG (by k_extra "GET") (by k_extra "GET")))
  (k_with "MISLIST" => (exact isListG (by k_extra "GET")))
  (k_with "ENTER" => (((case ks => assumption); (case k1 => assumption); (case k2 => assumption); (case k3 => assumption); (case k4 => assumption); (case kr => assumption); (case k5 => assumption); (case kK => assumption); (case k8 => first | k_extra "ROOMN" | ktr_room); (case k6 => k_is); (case k7 => k_is); (case k9 => exact BindsTo.of_eq rfl); (case kB => exact locs rfl); (case c2 => exact rfl); (case c3 => exact rfl); (case c4 => exact rfl); (case c5 => decide))))
  (k_with "subscriptTail" => ((k_here; (with_reducible show wpAny _ _ (subscriptTail _ _ (Value.ref _) (Value.int _ _)) _ _ _); k_dflt (refine' item_list ?k1 ?k2 ?k3 ?k4 ?_; (case k1 => is_list); (case k4 => assumption); (case k2 => k_extra "OM"); (case k3 => k_extra "OM")))))
  (k_with "subscriptTail" => ((k_here; (with_reducible show wpAny _ _ (subscriptTail _ _ (Value.ref _) (Value.int 1 _)) _ _ _); k_dflt (refine' item_tup1 ?k1 ?_; (case k1 => k_extra "GET")))))
  (k_with "subscriptTail" => ((k_here; (with_reducible show wpAny _ _ (subscriptTail _ _ (Value.ref _) (Value.int 0 _)) _ _ _); k_dflt (refine' item_tup0 ?k1 ?_; (case k1 => k_extra "GET")))))
  (k_with "compareOp Eq ref ref" => ((k_here; (with_reducible show wpAny _ _ (compareOp CmpOp.Eq (Value.ref _) (Value.ref _)) _ _ _); k_dflt (refine' eq_tup ?k1 ?k2 ?k3 ?_; (case k1 => k_extra "GET"); (case k2 => k_extra "GET"); (case k3 => k_units)))))
  (k_with "ite" => (first | (refine ite_pos ?c ?_; (case c => ((try simp only [decide_eq_true_eq, beq_iff_eq, Bool.not_eq_true', decide_eq_false_iff_not, ne_eq]); first | assumption | omega))) | (refine ite_neg ?c ?_; (case c => ((try simp only [decide_eq_true_eq, beq_iff_eq, Bool.not_eq_true', decide_eq_false_iff_not, ne_eq]); first | assumption | omega)))))
  (k_with "execs cons" => (((with_reducible refine wpAny_execs_cons ?_); (try dsimp only); k_fold)))
  (k_with "STEPS" => (((try k_fold); (repeat' (first | walk1 | (k_unfold; (try dsimp only)) | (dsimp only; walk1))); (all_goals (try dsimp only)))))
  (k_with "LV" => (((try dsimp only [WhileStep2]); refine' LeaveM.mk ?k1 ?k2 ?_; (case k1 => with_reducible assumption); (case k2 => with_reducible assumption); intro _ nK; (try dsimp only [List.nil_append, List.cons_append] at nK); revert nK; intro _; (try dsimp only))))
  (k_with "ROOM" => (first | k_extra "ROOMN" | (simp only [recursionLimit, cLine] at *; omega)))
  (k_with "CTX" => (((case B => with_reducible assumption); (case F => with_reducible assumption); (case X => with_reducible assumption); (case T => with_reducible assumption); (case hk => first | exact rfl | assumption); (case hd => k_extra "ROOM"); (case hu => k_extra "ROOM"); (case N => with_reducible assumption))))
  (k_with "KEEP" => (first | with_reducible assumption | exact DerV.keep (by with_reducible assumption) (Fr.keep (by with_reducible assumption)) | exact Sto.keep (by with_reducible assumption) (Fr.keep (by with_reducible assumption)) | exact Bok.keep (by with_reducible assumption) (Fr.keep (by with_reducible assumption)) | exact TupG.keep (by with_reducible assumption) (Fr.keep (by with_reducible assumption)) | exact ⟨_, by k_extra "GET"⟩ | exact ⟨_, _, _, _, rfl, by k_extra "GET"⟩ | assumption))
  (k_with "AFTER" => (((try dsimp only); (try k_sweep))))
  (k_with "call builtin:len" => ((k_here; (with_reducible show wpAny _ _ (call (Value.builtin "len") [Value.ref _]) _ _ _); k_dflt (refine' len_any ?k1 ?k2 ?_; (case k1 => is_list); (case k2 => first | with_reducible assumption | ((try simp only [List.length_append, List.length_cons, List.length_nil, List.length_set]); omega))))))
  (k_with "call builtin:list.append" => ((k_here; (with_reducible show wpAny _ _ (call (Value.builtin _) [Value.ref _, _]) _ _ _); k_dflt (refine' append_any ?k1 ?k2 ?k3 ?_ ?z; (case k1 => k_asm); (case k2 => k_asm); (case k3 => k_upd); (case z => first | with_reducible assumption | ((try simp only [List.length_append, List.length_cons, List.length_nil, List.length_set]); omega)); k_whole); intro _ _ _; (try k_sweep))))
  (k_with "setItem ref int" => ((k_here; (with_reducible show wpAny _ _ (setItem (Value.ref _) (Value.int _ _) _) _ _ _); k_dflt (refine' set_any ?k1 ?k2 ?k3 ?k4 ?k5 ?k6 ?_; (case k1 => k_asm); (case k2 => k_asm); (case k3 => k_upd); (case k4 => k_extra "OM"); (case k5 => first | with_reducible assumption | ((try simp only [List.length_append, List.length_cons, List.length_nil, List.length_set]); omega)); (case k6 => k_extra "OM"); k_whole); intro _ _ _; (try k_sweep))))
  (k_with "CTX2" => (((case B => with_reducible assumption); (case F => with_reducible assumption); (case X => with_reducible assumption); (case T => with_reducible assumption); (case hk => first | exact rfl | assumption); (case hd => k_extra "ROOM"); (case hu => k_extra "ROOM"))))
  (k_with "SEP" => (((repeat' (first | assumption | exact sep_nil | refine sep_app ?_ ?_ | refine sep_cons ?_ ?_)); (all_goals ((repeat' (first | exact nmNil | refine nmCons ?_ ?_)); all_goals first | assumption | k_extra "NEC" | exact Ne.symm (by assumption) | exact News.ne (by with_reducible assumption) (by k_mem) (by k_mem) (ne_typ rfl))))))
  (k_with "SPLIT1" => (first | (refine' News.at0 ?n; (case n => with_reducible assumption)) | (refine' News.at1 ?n; (case n => with_reducible assumption)) | (refine' News.at2 ?n; (case n => with_reducible assumption)) | (refine' News.at3 ?n; (case n => with_reducible assumption)) | (refine' News.at4 ?n; (case n => with_reducible assumption)) | (refine' News.at5 ?n; (case n => with_reducible assumption)) | (refine' News.at6 ?n; (case n => with_reducible assumption))))
  (k_with "pyIter ref" => (refine stopHere ?_))
  (k_with "SEPI" => (((repeat' (first | assumption | exact sep_nil | refine sep_app ?_ ?_ | refine sep_cons ?_ ?_)); (all_goals ((try dsimp only); first | assumption | k_extra "NEC" | exact Ne.symm (by assumption))))))
  (k_with "SUBT" => (first | exact sub_refl | (refine sub_cons ?_; k_extra "SUBT") | (refine sub_right ?_; k_extra "SUBT") | (refine sub_left ?_; k_extra "SUBT")))
  (k_with "MEM" => (first | exact memH | (with_reducible refine List.mem_append_right _ ?_; k_extra "MEM") | (with_reducible refine List.mem_append_left _ ?_; k_extra "MEM") | (with_reducible refine memT ?_; k_extra "MEM")))
  (k_with "SUBT2" => (first | exact sub_refl | (with_reducible refine sub_right ?_; k_extra "SUBT2") | (with_reducible refine sub_left ?_; k_extra "SUBT2") | (with_reducible refine sub_cons ?_; k_extra "SUBT2")))
  (k_with "SUBM" => (((repeat' (first | exact sep_nil | refine sep_app ?_ ?_ | refine sep_cons ?_ ?_)); (all_goals first | k_extra "MEM" | k_extra "SUBT2"))))
  (k_with "SUB" => (((repeat' (first | exact sep_nil | refine sep_app ?_ ?_ | refine sep_cons ?_ ?_)); (all_goals first | k_mem | k_extra "MEM" | k_extra "SUBT2" | (simp only [List.mem_append, List.mem_cons, List.not_mem_nil, true_or, or_true, or_false, false_or]; done) | (intro _ hx9; simp only [hx9, List.mem_append, List.mem_cons, List.not_mem_nil, true_or, or_true, or_false, false_or]; done) | k_extra "SUBT"))))
  (k_with "exec For Name Name cons nil" => ((k_here; (with_unfolding_all refine' For_invVF ?kF ?k1 ?k2 ?_; (case kF => assumption); (case k1 => exact rfl); (case k2 => exact rfl); k_whole))))
  (k_with "exec For Name Call cons nil" => ((k_here; (with_unfolding_all refine' For_invVF ?kF ?k1 ?k2 ?_; (case kF => assumption); (case k1 => exact rfl); (case k2 => exact rfl); k_whole))))
  (k_with "exec For Name Subscript cons nil" => ((k_here; (with_unfolding_all refine' For_invVF ?kF ?k1 ?k2 ?_; (case kF => assumption); (case k1 => exact rfl); (case k2 => exact rfl); k_whole))))
  (k_with "exec For Name Attribute cons nil" => ((k_here; (with_unfolding_all refine' For_invVF ?kF ?k1 ?k2 ?_; (case kF => assumption); (case k1 => exact rfl); (case k2 => exact rfl); k_whole))))
  (k_with "KEEP" => (first | with_reducible assumption | exact DerV.keep (by with_reducible assumption) (Fr.keep (by with_reducible assumption)) | exact Sto.keep (by with_reducible assumption) (Fr.keep (by with_reducible assumption)) | exact Bok.keep (by with_reducible assumption) (Fr.keep (by with_reducible assumption)) | exact TupG.keep (by with_reducible assumption) (Fr.keep (by with_reducible assumption)) | exact ⟨_, by k_extra "GET"⟩ | exact ⟨_, _, _, _, rfl, by k_extra "GET"⟩ | assumption))
  trivial
theorem nodup_le : ∀ (n : Nat) (l : List Nat), l.Nodup → (∀ x ∈ l, x < n) → l.length ≤ n
  | 0, [], _, _ => Nat.le_refl _
  | 0, x :: l, _, h => absurd (h x (.head _)) (Nat.not_lt_zero _)
  | n + 1, l, hn, h => by
    have h1 := nodup_le n (l.erase n) (hn.erase n) (fun x hx => by
      have := (hn.mem_erase_iff).mp hx
      have := h x this.2
      omega)
    have h2 := List.length_erase (a := n) (l := l)
    split at h2 <;> omega
inductive PathN (ns : List Nd) : Nat → Nat → Nat → Prop where
  | refl {t k} : PathN ns t k k
  | step {t k p g x} : ns[k]? = some x → p ∈ x.ps → PathN ns t p g → PathN ns (t + 1) k g
theorem PathN.mono {ns : List Nd} {t k g : Nat} (h : PathN ns t k g) : ∀ {t' : Nat}, t ≤ t' → PathN ns t' k g := by
  induction h with
  | refl => intro t' _; exact .refl
  | step e m _ ih =>
    intro t' ht
    obtain ⟨u, rfl⟩ : ∃ u, t' = u + 1 := ⟨t' - 1, by omega⟩
    exact .step e m (ih (by omega))
inductive Wk (ns : List Nd) : List Nat → Nat → Nat → Prop where
  | one {k} : Wk ns [k] k k
  | cons {k p g vs x} : ns[k]? = some x → p ∈ x.ps → Wk ns vs p g → Wk ns (k :: vs) k g
theorem Wk.suffix {ns : List Nd} {vs : List Nat} {p g k : Nat} (h : Wk ns vs p g) (hn : vs.Nodup) (hk : k ∈ vs) : ∃ us, Wk ns us k g ∧ us.Nodup := by
  induction h with
  | one => cases List.mem_singleton.mp hk; exact ⟨_, .one, hn⟩
  | @cons q p g vs x e m w ih =>
    obtain rfl | hk := List.mem_cons.mp hk
    · exact ⟨_, .cons e m w, hn⟩
    · exact ih (List.nodup_cons.mp hn).2 hk
theorem Wk.of {ns : List Nd} {k g : Nat} (h : Path ns k g) : ∃ vs, Wk ns vs k g ∧ vs.Nodup := by
  induction h with
  | refl => exact ⟨_, .one, by simp⟩
  | @step k p g x e m _ ih =>
    obtain ⟨vs, w, hn⟩ := ih
    by_cases c : k ∈ vs
    · exact w.suffix hn c
    · exact ⟨_, .cons e m w, List.nodup_cons.mpr ⟨c, hn⟩⟩
theorem Wk.bound {ns : List Nd} (hl : ∀ (k : Nat) (x : Nd), ns[k]? = some x → ∀ p ∈ x.ps, p < ns.length) {vs : List Nat} {k g : Nat} (h : Wk ns vs k g) : k < ns.length → ∀ v ∈ vs, v < ns.length := by
  induction h with
  | one => intro hk v hv; rw [List.mem_singleton.mp hv]; exact hk
  | @cons k p g vs x e m _ ih =>
    intro hk v hv
    obtain rfl | hv := List.mem_cons.mp hv
    · exact hk
    · exact ih (hl _ _ e p m) v hv
theorem Wk.toN {ns : List Nd} {vs : List Nat} {k g : Nat} (h : Wk ns vs k g) : PathN ns vs.length k g := by
  induction h with
  | one => exact .refl
  | cons e m _ ih => exact .step e m ih
theorem path_short {ns : List Nd} (hl : ∀ (k : Nat) (x : Nd), ns[k]? = some x → ∀ p ∈ x.ps, p < ns.length) {k g : Nat} (hk : k < ns.length) (h : Path ns k g) : PathN ns ns.length k g := by
  obtain ⟨vs, w, hn⟩ := Wk.of h
  exact w.toN.mono (nodup_le _ vs hn (w.bound hl hk))
noncomputable def bt (Ms : List Nat) (k g : Nat) : Bool := (Ms.getD k 0).testBit g
structure Clo (ns : List Nd) (Ms : List Nat) (t kk jj : Nat) : Prop where
  len : Ms.length = ns.length
  sound : ∀ k g, k < ns.length → bt Ms k g = true → Path ns k g
  base : ∀ k g, k < ns.length → PathN ns t k g → bt Ms k g = true
  fin : ∀ k g, k < kk → k < ns.length → PathN ns (t + 1) k g → bt Ms k g = true
  part : ∀ (x : Nd) (j p g : Nat), ns[kk]? = some x → j < jj → x.ps[j]? = some p → PathN ns t p g → bt Ms kk g = true
theorem Clo.start {ns : List Nd} {Ms : List Nat} (h1 : Ms.length = ns.length) (h2 : ∀ (i m : Nat), Ms[i]? = some m → m = 2 ^ i) : Clo ns Ms 0 0 0 := by
  have e : ∀ k g, k < ns.length → bt Ms k g = decide (k = g) := by
    intro k g hk
    unfold bt
    have := h2 k _ (List.getElem?_eq_getElem (by omega))
    rw [List.getD_eq_getElem?_getD, List.getElem?_eq_getElem (by omega), Option.getD_some, this, Nat.testBit_two_pow]
  refine ⟨h1, fun k g hk h => ?_, fun k g hk h => ?_, fun k g h => absurd h (Nat.not_lt_zero _), fun x j p g _ h => absurd h (Nat.not_lt_zero _)⟩
  · rw [e k g hk] at h
    rw [of_decide_eq_true h]
    exact .refl
  · cases h
    rw [e k k hk]
    simp
theorem Clo.upd {ns : List Nd} {Ms : List Nat} {t kk jj p : Nat} {x : Nd} (c : Clo ns Ms t kk jj) (hx : ns[kk]? = some x) (hp : x.ps[jj]? = some p) (hpl : p < ns.length) : Clo ns (Ms.set kk (Ms.getD kk 0 ||| Ms.getD p 0)) t kk (jj + 1) := by
  have hkk : kk < Ms.length := by rw [c.len]; exact (List.getElem?_eq_some_iff.mp hx).1
  have e1 : ∀ g, bt (Ms.set kk (Ms.getD kk 0 ||| Ms.getD p 0)) kk g = (bt Ms kk g || bt Ms p g) := by
    intro g
    unfold bt
    rw [List.getD_eq_getElem?_getD, List.getElem?_set_self hkk, Option.getD_some, Nat.testBit_or]
  have e2 : ∀ k g, k ≠ kk → bt (Ms.set kk (Ms.getD kk 0 ||| Ms.getD p 0)) k g = bt Ms k g := by
    intro k g hk
    unfold bt
    rw [List.getD_eq_getElem?_getD, List.getElem?_set_ne (Ne.symm hk), ← List.getD_eq_getElem?_getD]
  have up : ∀ k g, bt Ms k g = true → bt (Ms.set kk (Ms.getD kk 0 ||| Ms.getD p 0)) k g = true := by
    intro k g h
    by_cases ck : k = kk
    · subst ck; rw [e1, h]; rfl
    · rw [e2 k g ck, h]
  refine ⟨by rw [List.length_set]; exact c.len, fun k g hk h => ?_, fun k g hk h => up k g (c.base k g hk h), fun k g h1 h2 h3 => up k g (c.fin k g h1 h2 h3), fun y j q g hy hj hq h => ?_⟩
  · by_cases ck : k = kk
    · subst ck
      rw [e1] at h
      obtain h | h := Bool.or_eq_true_iff.mp h
      · exact c.sound _ _ hk h
      · exact .step hx (List.mem_of_getElem? hp) (c.sound _ _ hpl h)
    · rw [e2 k g ck] at h
      exact c.sound _ _ hk h
  · obtain rfl : x = y := Option.some.inj (hx.symm.trans hy)
    by_cases cj : j = jj
    · subst cj
      rw [hp] at hq
      cases hq
      rw [e1, c.base p g hpl h, Bool.or_true]
    · exact up _ _ (c.part x j q g hx (by omega) hq h)
theorem Clo.next {ns : List Nd} {Ms : List Nat} {t kk : Nat} {x : Nd} (c : Clo ns Ms t kk x.ps.length) (hx : ns[kk]? = some x) : Clo ns Ms t (kk + 1) 0 := by
  refine ⟨c.len, c.sound, c.base, fun k g h1 h2 h3 => ?_, fun y j p g _ h => absurd h (Nat.not_lt_zero _)⟩
  by_cases ck : k = kk
  · subst ck
    cases h3 with
    | refl => exact c.base _ _ h2 .refl
    | @step _ _ p _ y e m r =>
      refine Classical.byContradiction fun nGo => ?_
      obtain rfl : x = y := Option.some.inj (hx.symm.trans e)
      obtain ⟨j, hj, e3⟩ := List.mem_iff_getElem.mp m
      refine nGo ?_; clear nGo
      exact c.part x j p g hx hj (by rw [List.getElem?_eq_getElem hj, e3]) r
  · exact c.fin k g (by omega) h2 h3
theorem Clo.round {ns : List Nd} {Ms : List Nat} {t : Nat} (c : Clo ns Ms t ns.length 0) : Clo ns Ms (t + 1) 0 0 :=
  ⟨c.len, c.sound, fun k g hk h => c.fin k g hk hk h, fun k g h => absurd h (Nat.not_lt_zero _), fun x j p g _ h => absurd h (Nat.not_lt_zero _)⟩
theorem Clo.iff {ns : List Nd} {Ms : List Nat} (c : Clo ns Ms ns.length 0 0) (hl : ∀ (k : Nat) (x : Nd), ns[k]? = some x → ∀ p ∈ x.ps, p < ns.length) {k g : Nat} (hk : k < ns.length) : bt Ms k g = true ↔ Path ns k g :=
  ⟨c.sound k g hk, fun h => c.base k g hk (path_short hl hk h)⟩
section
variable {Ar : List Nat} {H S : List (Int × Int)} {ns : List Nd} {rep : Nat → Int × Int} {root : Nat → Nat}
/-- closed: the arguments of what was met are met, or wait, or end at another variable -/
noncomputable def Shut (ns : List Nd) (root : Nat → Nat) (g : Nat) (V : List Nat) (Z : List ((Int × Int) × Nat)) : Prop := ∀ v ∈ V, ∀ (x : Nd), ns[v]? = some x → ∀ p ∈ x.ps, root p ∈ V ∨ (∃ z ∈ Z, root z.2 = root p) ∨ (root p ≠ g ∧ ∃ y : Nd, ns[root p]? = some y ∧ y.kd = 2)
theorem WF.deadEnd (w : WF Ar H S ns rep root) {g : Nat} {y yr : Nd} {p : Nat} {x : Nd} (hy : ns[g]? = some y) (hg : y.kd ≠ 1) (hx : ns[p]? = some x) (hr : ns[root p]? = some yr) (h2 : yr.kd = 2) (hne : root p ≠ g) : ¬ Path ns p g := by
  intro h
  have h := (w.pathRoot hx hy hg).mp h
  cases h with
  | refl => exact hne rfl
  | step e m _ =>
    rw [hr] at e
    cases e
    rw [(w.free _ _ hr h2).1] at m
    cases m
theorem WF.exit (w : WF Ar H S ns rep root) {g : Nat} {y : Nd} (hy : ns[g]? = some y) (hg : y.kd ≠ 1) {V : List Nat} {Z : List ((Int × Int) × Nat)} (hV : ¬ g ∈ V) (hZ : ∀ z ∈ Z, z.2 < ns.length) (sh : Shut ns root g V Z) {k : Nat} (hp : Path ns k g) : ∀ {x : Nd}, ns[k]? = some x → root k ∈ V → ∃ z ∈ Z, Path ns z.2 g := by
  induction hp with
  | refl =>
    intro x hx hr
    obtain ⟨_, _, _, _, f, _⟩ := w.root _ x hx
    rw [hx] at hy
    cases hy
    rw [f hg] at hr
    exact absurd hr hV
  | @step k p g x e m r ih =>
    intro x' hx hr
    obtain rfl : x' = x := Option.some.inj (hx.symm.trans e)
    have hpl := w.lt _ _ hx p m
    by_cases c : x'.kd = 1
    · obtain ⟨q, e1, _, e3⟩ := w.bound _ _ hx c
      rw [e1] at m
      cases List.mem_singleton.mp m
      exact ih hy hV sh (List.getElem?_eq_getElem hpl) (by rw [e3]; exact hr)
    · obtain ⟨_, _, _, _, f, _⟩ := w.root _ x' hx
      rw [f c] at hr
      obtain h | ⟨z, hz, h⟩ | ⟨h1, yr, h2, h3⟩ := sh k hr x' hx p m
      · exact ih hy hV sh (List.getElem?_eq_getElem hpl) h
      · refine ⟨z, hz, ?_⟩
        have h1 := (w.pathRoot (List.getElem?_eq_getElem hpl) hy hg).mp r
        rw [← h] at h1
        exact (w.pathRoot (List.getElem?_eq_getElem (hZ z hz)) hy hg).mpr h1
      · exact absurd r (w.deadEnd hy hg (List.getElem?_eq_getElem hpl) h2 h3 h1)
theorem srA {z n v : Nat} (h : z + 1 + 2 * (n - v) ≤ 100) : z ≤ 5000 := by omega
theorem srB {a z m : Nat} (h : a + (z + 1) ≤ m + 1) : a + z ≤ m := by omega
theorem srC {c z : Nat} (h : z + 1 + c ≤ 100) : z + c ≤ 100 := by omega
theorem srD {n v z zs m : Nat} (h : 3 * (n - v) + (z + 1) ≤ m + 1) (h2 : zs ≤ 2) (h3 : v + 1 ≤ n) : 3 * (n - (v + 1)) + (z + zs) ≤ m := by omega
theorem srE {n v z zs : Nat} (h : z + 1 + 2 * (n - v) ≤ 100) (h2 : zs ≤ 2) (h3 : v + 1 ≤ n) : z + zs + 2 * (n - (v + 1)) ≤ 100 := by omega
theorem WF.srch (w : WF Ar H S ns rep root) (hn : ns.length ≤ 6) (hH : H.length ≤ 1000) {g : Nat} {y : Nd} (hy : ns[g]? = some y) (hg : y.kd ≠ 1) :
    ∀ (m : Nat) (V : List Nat) (Z : List ((Int × Int) × Nat)), 3 * (ns.length - V.length) + Z.length ≤ m → V.Nodup → (∀ v ∈ V, v ≠ g ∧ ∃ x, ns[v]? = some x ∧ x.kd = 0) → (∀ z ∈ Z, z.2 < ns.length ∧ Dr H S z.1 (rep z.2)) → Shut ns root g V Z → Z.length + 2 * (ns.length - V.length) ≤ 100 →
      ∃ n b, Srch H S Ar (rep g) n (V.map fun v => (rep v).2) (Z.map (·.1)) b ∧ (b = true ↔ ∃ z ∈ Z, Path ns z.2 g) := by
  intro m
  induction m with
  | zero =>
    intro V Z hm hV hV2 hZ sh hb
    have : Z = [] := List.length_eq_zero_iff.mp (by omega)
    subst this
    exact ⟨0, false, .done, by simp⟩
  | succ m ih =>
    intro V Z hm hV hV2 hZ sh hb
    obtain rfl | ⟨Z', z, rfl⟩ := List.eq_nil_or_concat Z
    · exact ⟨0, false, .done, by simp⟩
    rw [List.concat_eq_append] at *
    have lV := nodup_le _ V hV fun v hv => by
      obtain ⟨_, x, e, _⟩ := hV2 v hv
      exact (List.getElem?_eq_some_iff.mp e).1
    obtain ⟨zl, nd, hd⟩ := hZ z (by simp)
    have hZ' : ∀ q ∈ Z', q.2 < ns.length ∧ Dr H S q.1 (rep q.2) := fun q hq => hZ q (by simp [hq])
    have hz := List.getElem?_eq_getElem zl
    have mapE : (Z' ++ [z]).map (·.1) = Z'.map (·.1) ++ [z.1] := by simp
    rw [mapE]
    have lZ2 : (Z' ++ [z]).length = Z'.length + 1 := by simp
    rw [lZ2] at hm hb
    have lZ : (Z'.map (·.1)).length ≤ 5000 := by rw [List.length_map]; exact srA hb
    have lM : (V.map fun v => (rep v).2).length ≤ 1000 := by rw [List.length_map]; exact Nat.le_trans lV (Nat.le_trans hn (by decide))
    obtain ⟨yr, hyr, kr, er, fr, pr⟩ := w.root z.2 _ hz
    by_cases c1 : rep z.2 = rep g
    · refine ⟨0, true, .hit hd c1 lZ, ?_⟩
      simp only [true_iff]
      exact ⟨z, by simp, by rw [← w.rootEq hz hy hg c1]; exact pr⟩
    have hng : root z.2 ≠ g := fun e => c1 (by rw [← er, e])
    have kr2 := w.kds _ _ hyr
    have drop : ∀ {P : Prop}, (P ↔ ∃ z ∈ Z', Path ns z.2 g) → (Path ns z.2 g → ∃ z ∈ Z', Path ns z.2 g) → (P ↔ ∃ q ∈ Z' ++ [z], Path ns q.2 g) := by
      intro P h1 h2
      refine h1.trans ⟨?_, ?_⟩
      · rintro ⟨q, hq, h⟩; exact ⟨q, by simp [hq], h⟩
      · intro hR0; obtain ⟨q, hq, h⟩ := hR0
        obtain hq | hq := List.mem_append.mp hq
        · exact ⟨q, hq, h⟩
        · cases List.mem_singleton.mp hq; exact h2 h
    by_cases c2 : yr.kd = 2
    · have hC : isC (rep z.2) = false := by rw [← er]; exact w.freeC hyr c2
      obtain ⟨n, b, s, hb2⟩ := ih V Z' (srB hm) hV hV2 hZ' (fun v hv x hx p hp => by
        obtain h | ⟨q, hq, e⟩ | h := sh v hv x hx p hp
        · exact .inl h
        · obtain hq | hq := List.mem_append.mp hq
          · exact .inr (.inl ⟨q, hq, e⟩)
          · cases List.mem_singleton.mp hq
            exact .inr (.inr ⟨by rw [← e]; exact hng, yr, by rw [← e]; exact hyr, c2⟩)
        · exact .inr (.inr h)) (srC hb)
      exact ⟨n + 1, b, .skip hd c1 hC lZ s, drop hb2 fun h => absurd h (w.deadEnd hy hg hz hyr c2 hng)⟩
    · have k0 : yr.kd = 0 := kd0 kr2 kr c2
      have hC : isC (rep z.2) = true := by rw [← er]; exact w.compC hyr k0
      refine Classical.byContradiction fun nGo => ?_
      obtain ⟨_, cm⟩ := w.comp _ _ hyr k0
      rw [er] at cm
      obtain ⟨_, a0, a1, aw, a2, ap⟩ := cm
      refine nGo ?_; clear nGo
      by_cases c3 : root z.2 ∈ V
      · have hm2 : (rep z.2).2 ∈ V.map fun v => (rep v).2 := List.mem_map.mpr ⟨root z.2, c3, by rw [er]⟩
        have sh' : Shut ns root g V Z' := fun v hv x hx p hp => by
          obtain h | ⟨q, hq, e⟩ | h := sh v hv x hx p hp
          · exact .inl h
          · obtain hq | hq := List.mem_append.mp hq
            · exact .inr (.inl ⟨q, hq, e⟩)
            · cases List.mem_singleton.mp hq
              exact .inl (by rw [← e]; exact c3)
          · exact .inr (.inr h)
        obtain ⟨n, b, s, hb2⟩ := ih V Z' (srB hm) hV hV2 hZ' sh' (srC hb)
        exact ⟨n + 1, b, .seen hd hC c1 hm2 lZ lM s, drop hb2 fun h => w.exit hy hg (fun hgV => (hV2 g hgV).1 rfl) (fun q hq => (hZ' q hq).1) sh' h hz c3⟩
      · have hm2 : ¬ (rep z.2).2 ∈ V.map fun v => (rep v).2 := by
          intro h
          refine Classical.byContradiction fun nGo => ?_
          obtain ⟨v, hv, e⟩ := List.mem_map.mp h
          obtain ⟨_, x, hx, kx⟩ := hV2 v hv
          refine nGo ?_; clear nGo
          exact c3 (by rw [← w.inj0 v (root z.2) x yr hx hyr kx k0 (by rw [er]; exact e)]; exact hv)
        have hV' : (root z.2 :: V).Nodup := List.nodup_cons.mpr ⟨c3, hV⟩
        have hV2' : ∀ v ∈ root z.2 :: V, v ≠ g ∧ ∃ x, ns[v]? = some x ∧ x.kd = 0 := by
          intro v hv
          obtain rfl | hv := List.mem_cons.mp hv
          · exact ⟨hng, yr, hyr, k0⟩
          · exact hV2 v hv
        have lV' := nodup_le _ _ hV' fun v hv => by
          obtain ⟨_, x, e, _⟩ := hV2' v hv
          exact (List.getElem?_eq_some_iff.mp e).1
        rw [List.length_cons] at lV'
        refine Classical.byContradiction fun nGo => ?_
        obtain ⟨Zs, l1, l2⟩ : ∃ Zs : List ((Int × Int) × Nat), Zs.length = yr.ps.length ∧ ∀ (j : Nat) (q : (Int × Int) × Nat), Zs[j]? = some q → yr.ps[j]? = some q.2 ∧ Lk H S (0, baseOf (rep z.2) + (j : Int)) = some q.1 ∧ Dr H S q.1 (rep q.2) := by
          refine ⟨(List.range yr.ps.length).map fun (j : Nat) => ((Lk H S (0, baseOf (rep z.2) + (j : Int))).getD (0, 0), yr.ps.getD j 0), by simp, ?_⟩
          intro j q hq
          rw [List.getElem?_map] at hq
          by_cases hj : j < yr.ps.length
          · rw [List.getElem?_range hj] at hq
            cases hq
            obtain ⟨d, e1, _, e2⟩ := ap j _ (List.getElem?_eq_getElem hj)
            have e3 : yr.ps.getD j 0 = yr.ps[j] := by rw [List.getD_eq_getElem?_getD, List.getElem?_eq_getElem hj]; rfl
            dsimp only
            rw [e1, e3]
            exact ⟨List.getElem?_eq_getElem hj, rfl, e2⟩
          · rw [List.getElem?_eq_none (by simpa using hj)] at hq
            cases hq
        have mZ : ∀ q ∈ Zs, ∃ j : Nat, Zs[j]? = some q := fun q hq => List.getElem?_of_mem hq
        have l3 : Zs.length ≤ 2 := by rw [l1]; exact a2
        have b0 : 0 ≤ baseOf (rep z.2) := by unfold baseOf; split <;> omega
        obtain ⟨n, b, s, hb2⟩ := ih (root z.2 :: V) (Z' ++ Zs.reverse) (by simp only [List.length_cons, List.length_append, List.length_reverse]; exact srD hm l3 lV') hV' hV2' (fun q hq => by
          obtain hq | hq := List.mem_append.mp hq
          · exact hZ' q hq
          · obtain ⟨j, e⟩ := mZ q (List.mem_reverse.mp hq)
            obtain ⟨e1, _, e2⟩ := l2 j q e
            exact ⟨w.lt _ _ hyr _ (List.mem_of_getElem? e1), e2⟩) (fun v hv x hx p hp => by
          obtain rfl | hv := List.mem_cons.mp hv
          · rw [hyr] at hx
            cases hx
            obtain ⟨j, hj, e⟩ := List.mem_iff_getElem.mp hp
            obtain ⟨q9, hq⟩ : ∃ q, Zs[j]? = some q := ⟨_, List.getElem?_eq_getElem (by rw [l1]; exact hj)⟩
            obtain ⟨e1, _, _⟩ := l2 j _ hq
            rw [List.getElem?_eq_getElem hj, e] at e1
            have e1 := Option.some.inj e1
            exact .inr (.inl ⟨_, List.mem_append_right _ (List.mem_reverse.mpr (List.mem_of_getElem? hq)), congrArg root e1.symm⟩)
          · obtain h | ⟨q, hq, e⟩ | h := sh v hv x hx p hp
            · exact .inl (.tail _ h)
            · obtain hq | hq := List.mem_append.mp hq
              · exact .inr (.inl ⟨q, List.mem_append_left _ hq, e⟩)
              · cases List.mem_singleton.mp hq
                exact .inl (by rw [← e]; exact .head _)
            · exact .inr (.inr h)) (by simp only [List.length_cons, List.length_append, List.length_reverse]; exact srE hb l3 lV')
        refine nGo ?_; clear nGo
        refine ⟨n + 1, b, .push (k := yr.ps.length) (as := Zs.map (·.1)) hd hC c1 hm2 lZ lM a0 (by omega) aw (Nat.le_trans a2 (by decide)) (by rw [List.length_map]; exact l1) ?_ ?_, ?_⟩
        · intro j hj
          refine Classical.byContradiction fun nGo => ?_
          obtain ⟨q9, hq⟩ : ∃ q, Zs[j]? = some q := ⟨_, List.getElem?_eq_getElem (by rw [l1]; exact hj)⟩
          obtain ⟨_, e2, _⟩ := l2 j _ hq
          refine nGo ?_; clear nGo
          rw [Lk.at0 rfl (by show 0 ≤ baseOf (rep z.2) + (j : Int); omega)] at e2
          rw [List.getElem?_map, hq]
          exact e2.symm
        · have e9 : Z'.map (·.1) ++ (Zs.map (·.1)).reverse = (Z' ++ Zs.reverse).map (·.1) := by simp
          have e8 : (root z.2 :: V).map (fun v => (rep v).2) = (rep z.2).2 :: V.map fun v => (rep v).2 := by rw [List.map_cons, er]
          rw [e9, ← e8]
          exact s
        · refine hb2.trans ⟨?_, ?_⟩
          · intro hR0; obtain ⟨q, hq, h⟩ := hR0
            obtain hq | hq := List.mem_append.mp hq
            · exact ⟨q, by simp [hq], h⟩
            · obtain ⟨j, e⟩ := mZ q (List.mem_reverse.mp hq)
              obtain ⟨e1, _, _⟩ := l2 j q e
              exact ⟨z, by simp, pr.trans (.step hyr (List.mem_of_getElem? e1) h)⟩
          · intro hR0; obtain ⟨q, hq, h⟩ := hR0
            obtain hq | hq := List.mem_append.mp hq
            · exact ⟨q, List.mem_append_left _ hq, h⟩
            · cases List.mem_singleton.mp hq
              have h := (w.pathRoot hz hy hg).mp h
              cases h with
              | refl => exact absurd rfl hng
              | @step _ p _ x e m r =>
                rw [hyr] at e
                cases e
                refine Classical.byContradiction fun nGo => ?_
                obtain ⟨j, hj, e⟩ := List.mem_iff_getElem.mp m
                obtain ⟨q9, hq⟩ : ∃ q, Zs[j]? = some q := ⟨_, List.getElem?_eq_getElem (by rw [l1]; exact hj)⟩
                obtain ⟨e1, _, _⟩ := l2 j _ hq
                refine nGo ?_; clear nGo
                rw [List.getElem?_eq_getElem hj, e] at e1
                have e1 := Option.some.inj e1
                exact ⟨_, List.mem_append_right _ (List.mem_reverse.mpr (List.mem_of_getElem? hq)), Eq.mp (congrArg (fun q => Path ns q g) e1) r⟩
theorem WF.srch1 (w : WF Ar H S ns rep root) (hn : ns.length ≤ 6) (hH : H.length ≤ 1000) {g k : Nat} {y : Nd} {c : Int × Int} (hy : ns[g]? = some y) (hg : y.kd ≠ 1) (hk : k < ns.length) (hc : Dr H S c (rep k)) : ∃ n b, Srch H S Ar (rep g) n [] [c] b ∧ (b = true ↔ Path ns k g) := by
  obtain ⟨n, b, s, h⟩ := w.srch hn hH hy hg (3 * ns.length + 1) [] [(c, k)] (by simp) List.nodup_nil (fun _ h => nomatch h) (fun z hz => by rw [List.mem_singleton.mp hz]; exact ⟨hk, hc⟩) (fun _ h => nomatch h) (by simp; omega)
  exact ⟨n, b, s, by simpa using h⟩
theorem WF.pathTag (w : WF Ar H S ns rep root) {k g : Nat} (h : Path ns k g) : ∀ {x : Nd}, ns[k]? = some x → (rep k).1 ≠ 1 → (rep g).1 ≠ 1 := by
  induction h with
  | refl => intro x _ h; exact h
  | @step k p g x e m _ ih =>
    intro x' hx hk
    obtain rfl : x' = x := Option.some.inj (hx.symm.trans e)
    have hpl := List.getElem?_eq_getElem (w.lt _ _ hx p m)
    have kk := w.kds _ _ hx
    by_cases c : x'.kd = 1
    · obtain ⟨q, e1, e2, _⟩ := w.bound _ _ hx c
      rw [e1] at m
      cases List.mem_singleton.mp m
      exact ih hpl (by rw [e2]; exact hk)
    · by_cases c2 : x'.kd = 2
      · rw [(w.free _ _ hx c2).1] at m; cases m
      · obtain ⟨_, _, _, _, _, _, ap⟩ := w.comp _ _ hx (kd0 kk c c2)
        refine Classical.byContradiction fun nGo => ?_
        obtain ⟨j, hj, e3⟩ := List.mem_iff_getElem.mp m
        obtain ⟨d, e4, _, e5⟩ := ap j p (by rw [List.getElem?_eq_getElem hj, e3])
        refine nGo ?_; clear nGo
        refine ih hpl (e5.tag w.tagH ?_)
        obtain ⟨_, _, e6⟩ | ⟨e6, _⟩ := Lk.tag e4
        · exact w.tagH _ (List.mem_of_getElem? e6)
        · cases e6
theorem WF.occ (w : WF Ar H S ns rep root) (hn : ns.length ≤ 6) (hH : H.length ≤ 1000) {g k : Nat} {x y : Nd} (hy : ns[g]? = some y) (hg : y.kd = 2) (hx : ns[k]? = some x) : ∃ b, Occ H S Ar (rep g) x.c b ∧ (b = true ↔ Path ns k g) := by
  refine Classical.byContradiction fun nGo => ?_
  obtain ⟨j, hd⟩ := w.der k x hx
  have hg1 : y.kd ≠ 1 := by rw [hg]; decide
  obtain ⟨yr, hyr, kr, er, _, pr⟩ := w.root k x hx
  refine nGo ?_; clear nGo
  have kr2 := w.kds _ _ hyr
  by_cases c1 : rep k = rep g
  · refine ⟨true, ⟨j, _, hd, .inl ⟨c1, rfl⟩⟩, ?_⟩
    simp only [true_iff]
    rw [← w.rootEq hx hy hg1 c1]
    exact pr
  have hng : root k ≠ g := fun e => c1 (by rw [← er, e])
  by_cases c2 : yr.kd = 2
  · have np := w.deadEnd hy hg1 hx hyr c2 hng
    by_cases c3 : (rep g).1 = 1
    · exact ⟨false, ⟨j, _, hd, .inr (.inl ⟨c1, c3, rfl⟩)⟩, by simpa using np⟩
    · exact ⟨false, ⟨j, _, hd, .inr (.inr (.inl ⟨c1, c3, by rw [← er]; exact w.freeC hyr c2, rfl⟩))⟩, by simpa using np⟩
  · have hC : isC (rep k) = true := by rw [← er]; exact w.compC hyr (kd0 kr2 kr c2)
    by_cases c3 : (rep g).1 = 1
    · refine ⟨false, ⟨j, _, hd, .inr (.inl ⟨c1, c3, rfl⟩)⟩, ?_⟩
      simp only [Bool.false_eq_true, false_iff]
      intro h
      refine w.pathTag h hx ?_ c3
      rcases isC_tag hC with e | e <;> rw [e] <;> decide
    · obtain ⟨n, b, s, h⟩ := w.srch1 hn hH hy hg1 (List.getElem?_eq_some_iff.mp hx).1 (w.der k x hx).fin
      exact ⟨b, ⟨j, _, hd, .inr (.inr (.inr ⟨c1, c3, hC, n, s⟩))⟩, h⟩
end
theorem bitOr_nat (a b : Nat) : Builtin.bitOr (a : Int) (b : Int) = ((a ||| b : Nat) : Int) := by
  have h1 : ∀ n : Nat, ¬ 0 ≤ Builtin.bitNot (n : Int) := fun n => by unfold Builtin.bitNot; omega
  have h2 : ∀ x : Int, Builtin.bitNot (Builtin.bitNot x) = x := fun x => by unfold Builtin.bitNot; omega
  unfold Builtin.bitOr Builtin.bitAnd
  rw [decide_eq_false (h1 a), decide_eq_false (h1 b)]
  dsimp only
  rw [h2, h2, h2, Int.toNat_natCast, Int.toNat_natCast]
theorem IntsN.set {p : Nat} {t : Tok} : ∀ {vs : List Value} {ps : List Nat}, IntsN vs ps → ∀ i : Nat, IntsN (vs.set i (.int (p : Int) t)) (ps.set i p)
  | _, _, .nil, _ => .nil
  | _, _, .cons r, 0 => .cons r
  | _, _, .cons r, i + 1 => .cons (r.set i)
theorem due_bit (M g : Nat) : (((M : Int).fdiv ((2 ^ g : Nat) : Int)).fmod 2 = 1) ↔ M.testBit g = true := by
  rw [Int.fdiv_eq_ediv_of_nonneg _ (Int.natCast_nonneg _), Int.fmod_eq_emod_of_nonneg _ (by decide)]
  rw [Nat.testBit_eq_decide_div_mod_eq]
  simp only [decide_eq_true_eq]
  omega
theorem ints_of {f : Nat → Nat} : ∀ {ys : List Value}, (∀ (i : Nat) (y : Value), ys[i]? = some y → ∃ t, y = .int ((f i : Nat) : Int) t) → IntsN ys ((List.range ys.length).map f)
  | [], _ => .nil
  | y :: ys, h => by
    obtain ⟨t, rfl⟩ := h 0 y rfl
    rw [List.length_cons, List.range_succ_eq_map, List.map_cons, List.map_map]
    exact .cons (ints_of (f := fun i => f (i + 1)) fun i z hz => h (i + 1) z (by simpa using hz))
theorem pow_at {n i m : Nat} (h : ((List.range n).map (fun i => 2 ^ i))[i]? = some m) : m = 2 ^ i := by
  rw [List.getElem?_map] at h
  by_cases hi : i < n
  · rw [List.getElem?_range hi] at h
    exact (Option.some.inj h).symm
  · rw [List.getElem?_eq_none (by simpa using hi)] at h
    cases h
inductive JR (ns : List Nd) (bd : List (Str × Value)) (MT : Addr) (rest : List (Addr × Obj)) (t kk jj : Nat) (m : Str → Option Value) (news : List (Addr × Obj)) : Prop where
  | mk (mv : List Value) (nM : Nat) (Ms : List Nat) (ag : Agree m bd) (e : news = (MT, listOf (List.toArray mv) nM) :: rest) (iM : IntsN mv Ms) (cl : Clo ns Ms t kk jj) : JR ns bd MT rest t kk jj m news
section
variable {prog : Program} {w : World} {p : Program} {loose : List Str} {mean : ExcName → Option Value} {mg mb : Str → Option Value} {dp un : Nat} {gd : Option (List Code)} {a : Addr} {ccd : Value} {outer : List Env} {A₀ : Around} {base h₀ : Heap} {L : Addr} {m : Str → Option Value} {s₁ : Shared} {h₁ : Heap} {tk₁ : Nat} {Q : Flow → Shared → Prop}
  (B : Below A₀ base outer h₀) (X : (Mine.hd.heap_1 w.params).In h₀) (T : Top p loose mean mg mb h₀) (hd : dp + 60 < recursionLimit) (hu : un + 1200 < cLine)
include B X T hd hu
theorem ln41 : True := by
  (k_with "call ref" => ((k_here; (with_reducible show wpAny _ _ (call (Value.ref 154) _) _ _ _); refine stopHere ?_)))
  (k_with "call ref" => ((k_here; (with_reducible show wpAny _ _ (call (Value.ref 381) _) _ _ _); refine stopHere ?_)))
  (k_with "call ref" => ((k_here; (with_reducible show wpAny _ _ (call (Value.ref 411) _) _ _ _); refine stopHere ?_)))
  (k_with "call ref" => ((k_here; (with_reducible show wpAny _ _ (call (Value.ref 418) _) _ _ _); refine stopHere ?_)))
  (k_with "call ref" => ((k_here; (with_reducible show wpAny _ _ (call (Value.ref 109) _) _ _ _); refine stopHere ?_)))
  (k_with "call ref" => ((k_here; (with_reducible show wpAny _ _ (call (Value.ref 342) _) _ _ _); refine stopHere ?_)))
  (k_with "call ref" => ((k_here; (with_reducible show wpAny _ _ (call (Value.ref 209) _) _ _ _); refine stopHere ?_)))
  (k_with "call ref" => ((k_here; (with_reducible show wpAny _ _ (call (Value.ref 244) _) _ _ _); refine stopHere ?_)))
  (k_with "call ref" => ((k_here; (with_reducible show wpAny _ _ (call (Value.ref 279) _) _ _ _); refine stopHere ?_)))
  (k_with "call ref" => ((k_here; (with_reducible show wpAny _ _ (call (Value.ref 230) _) _ _ _); refine stopHere ?_)))
  (k_with "call ref" => ((k_here; (with_reducible show wpAny _ _ (call (Value.ref 397) _) _ _ _); refine stopHere ?_)))
  (k_with "call ref" => ((k_here; (with_reducible show wpAny _ _ (call (Value.ref 404) _) _ _ _); refine stopHere ?_)))
  (k_with "SEPL" => (((repeat' (first | assumption | exact sep_nil | refine sep_app ?_ ?_ | refine sep_cons ?_ ?_)); (all_goals first | exact sepOne (by assumption) | exact sepTwo (by assumption) (by assumption) | exact sepFour (by assumption) (by assumption) (by assumption) (by assumption) | ((repeat' (first | exact nmNil | refine nmCons ?_ ?_)); all_goals first | assumption | k_extra "NEC" | exact Ne.symm (by assumption) | exact News.ne (by with_reducible assumption) (by k_mem) (by k_mem) (ne_typ rfl))))))
  (k_with "GET" => (first | (refine' News.get ?n ?k; (case n => with_reducible assumption); (case k => ((repeat' (apply List.Mem.tail)); first | (exact List.mem_append_right _ (by with_reducible assumption)) | (exact List.mem_append_left _ (by with_reducible assumption)) | fail "no"))) | fail "no"))
  (k_with "getItem ref int" => ((k_here; (with_reducible show wpAny _ _ (getItem (Value.ref _) (Value.int _ _)) _ _ _); k_dflt (refine' getItem_listL ?k1 ?k2 ?k3 ?k4 ?_; (case k1 => is_list); (case k4 => first | assumption | exact rfl); (case k2 => k_extra "OM"); (case k3 => k_extra "OM")))))
  (k_with "subscriptTail" => ((k_here; (with_reducible show wpAny _ _ (subscriptTail _ _ (Value.ref _) (Value.int (List.getD _ _ _) _)) _ _ _); rw [getD_one]; k_dflt (refine' item_list ?k1 ?k2 ?k3 ?k4 ?_; (case k1 => is_list); (case k4 => first | assumption | exact rfl); (case k2 => k_extra "OM"); (case k3 => k_extra "OM")))))
  (k_with "subscriptTail" => ((k_here; (with_reducible show wpAny _ _ (subscriptTail _ _ (Value.ref _) (Value.int _ _)) _ _ _); k_dflt (refine' item_list ?k1 ?k2 ?k3 ?k4 ?_; (case k1 => is_list); (case k4 => first | assumption | exact rfl); (case k2 => k_extra "OM"); (case k3 => k_extra "OM")))))
  (k_with "exec While Compare" => (refine stopHere ?_))
  (k_with "exec While" => (refine stopHere ?_))
  trivial
theorem law_round {H S TX AN FL FN CL SL KL D st dst bk dbk Tr MT : Addr} {ws : List Value} {kk2 uu kk : Nat → Tok} {o1c o2c : Obj} {n : Nat} {nH nS n2 nC nSL nK : Nat} {hs ss fs cv sv kv : List Value} {oF : Obj} {nt pt : List (Addr × Obj)} {Fx Ha Sa : List (Int × Int)} {ns : List Nd} {mv : List Value} {nM t : Nat} {Ms : List Nat} {I1 : Addr} {oI1 : Obj} {tt : Tok}
    (hn6 : Hid (n ≤ 6)) (LS : LawE prog w KL n hs ss fs cv sv kv oF nt pt Fx Ha Sa ns) (hc1 : o1c.data = .cell (some (.ref CL))) (hc2 : o2c.data = .cell (some (.ref KL))) (wlt : ∀ (k : Nat) (x : Nd), ns[k]? = some x → ∀ p ∈ x.ps, p < ns.length)
    (hz : ∀ p ∈ ((H, listOf hs.toArray nH) :: (S, listOf ss.toArray nS) :: (FL, listOf fs.toArray n2) :: (CL, listOf cv.toArray nC) :: (SL, listOf sv.toArray nSL) :: (KL, listOf kv.toArray nK) :: (D, listOf ws.toArray 0) :: (st, instObj 381 dst) :: (dst, dictOf (stE w.params bk H S Tr kk2 uu) 7) :: (bk, instObj 154 dbk) :: (dbk, dictOf (bkE w.params TX AN FL FN kk) 4) :: (L + 1, o1c) :: (L + 1 + 1, o2c) :: (pt ++ nt)), p.1 ≠ MT) (iM : IntsN mv Ms) (cl0 : Clo ns Ms t 0 0) (cI1 : oI1.cls = .type "range_iterator") (hne : ∀ p ∈ (MT, listOf mv.toArray nM) :: ((H, listOf hs.toArray nH) :: (S, listOf ss.toArray nS) :: (FL, listOf fs.toArray n2) :: (CL, listOf cv.toArray nC) :: (SL, listOf sv.toArray nSL) :: (KL, listOf kv.toArray nK) :: (D, listOf ws.toArray 0) :: (st, instObj 381 dst) :: (dst, dictOf (stE w.params bk H S Tr kk2 uu) 7) :: (bk, instObj 154 dbk) :: (dbk, dictOf (bkE w.params TX AN FL FN kk) 4) :: (L + 1, o1c) :: (L + 1 + 1, o2c) :: (pt ++ nt)), ¬ p.1 = I1)
    (F₁ : Fr h₀ L h₁ (fun y => if y = Str.ofString "turn" then some (.int ((0 : Int) + (t : Int) * 1) tt) else over [(Str.ofString "met", .ref MT), (Str.ofString "store", .ref st), (Str.ofString "steps", .ref SL)] m y)) (N₁ : News h₀ L h₁ ((I1, oI1) :: (MT, listOf mv.toArray nM) :: ((H, listOf hs.toArray nH) :: (S, listOf ss.toArray nS) :: (FL, listOf fs.toArray n2) :: (CL, listOf cv.toArray nC) :: (SL, listOf sv.toArray nSL) :: (KL, listOf kv.toArray nK) :: (D, listOf ws.toArray 0) :: (st, instObj 381 dst) :: (dst, dictOf (stE w.params bk H S Tr kk2 uu) 7) :: (bk, instObj 154 dbk) :: (dbk, dictOf (bkE w.params TX AN FL FN kk) 4) :: (L + 1, o1c) :: (L + 1 + 1, o2c) :: (pt ++ nt)))) :
    wpAny (model prog w) (ktrTop dp un gd (Str.ofString "law") lawScope L a ccd (cellsFrom (L + 1) lawScope.names []) outer) (execs (forBody 9) (envX (Str.ofString "law") lawScope L a ccd (cellsFrom (L + 1) lawScope.names []))) (TurnJ h₀ L [(I1, oI1)] I1 (JR ns [(Str.ofString "met", .ref MT), (Str.ofString "store", .ref st), (Str.ofString "steps", .ref SL)] MT (((H, listOf hs.toArray nH) :: (S, listOf ss.toArray nS) :: (FL, listOf fs.toArray n2) :: (CL, listOf cv.toArray nC) :: (SL, listOf sv.toArray nSL) :: (KL, listOf kv.toArray nK) :: (D, listOf ws.toArray 0) :: (st, instObj 381 dst) :: (dst, dictOf (stE w.params bk H S Tr kk2 uu) 7) :: (bk, instObj 154 dbk) :: (dbk, dictOf (bkE w.params TX AN FL FN kk) 4) :: (L + 1, o1c) :: (L + 1 + 1, o2c) :: (pt ++ nt))) (t + 1) 0 0) s₁ Q) (fun _ _ => False) { s₁ with heap := h₁, toks := tk₁ } := by
  generalize hg1 : forBody 9 = bd
  generalize hg2 : lawScope = sc
  conv at hg1 => lhs; whnf
  conv at hg2 => lhs; whnf
  subst hg1
  subst hg2
  have hn6' : n ≤ 6 := hn6
  have lC' := LS.cC.length
  have lS4 := LS.sP.length
  rw [List.length_map] at lC' lS4
  have ln4 := LS.ln
  have b1 : cv.length ≤ 100 := len6 lC' ln4 hn6'
  have b4 : sv.length ≤ 100 := len6 lS4 ln4 hn6'
  have lM := iM.length
  have lM2 := cl0.len
  have hz0 := hz
  simp only [List.mem_cons, forall_eq_or_imp] at hz
  obtain ⟨z1, z2, z3, z4, z5, z6, z7, z8, z9, z10, z11, z12, z13, zl⟩ := hz
  have i0 : ¬ MT = I1 := hne _ (.head _)
  k_extra "STEPS"
  rename IsRange _ _ _ _ _ _ _ _ => hr9
  rename Fr _ _ _ _ => F9
  rename News _ _ _ _ => N9
  refine for_range (n := cv.length) (fun kx => (JR ns [(Str.ofString "met", .ref MT), (Str.ofString "store", .ref st), (Str.ofString "steps", .ref SL)] MT ((I1, oI1) :: ((H, listOf hs.toArray nH) :: (S, listOf ss.toArray nS) :: (FL, listOf fs.toArray n2) :: (CL, listOf cv.toArray nC) :: (SL, listOf sv.toArray nSL) :: (KL, listOf kv.toArray nK) :: (D, listOf ws.toArray 0) :: (st, instObj 381 dst) :: (dst, dictOf (stE w.params bk H S Tr kk2 uu) 7) :: (bk, instObj 154 dbk) :: (dbk, dictOf (bkE w.params TX AN FL FN kk) 4) :: (L + 1, o1c) :: (L + 1 + 1, o2c) :: (pt ++ nt))) t kx 0)) rfl rfl hr9 (range0_small (by k_extra "OM")) range0_size F9 (News.sub N9 (by k_extra "SUB")) ⟨mv, nM, Ms, .cons rfl (.cons rfl (.cons rfl .nil)), rfl, iM, cl0⟩ ?_ ?_
  · intro kx tk2 m₂ news₂ h₂ tk₂ I2 oI2 hkx hR9 hne2 cI2 F₂ N₂; obtain ⟨mv, nM, Ms, ag2, rfl, iM, cl⟩ := hR9
    rw [ag2.form] at F₂
    rw [show (0 : Int) + (kx : Int) * 1 = (kx : Int) by omega] at F₂
    clear hr9 F9 N9
    refine Classical.byContradiction fun nGo => ?_
    obtain ⟨xk, hxk⟩ : ∃ xk, ns[kx]? = some xk := ⟨_, List.getElem?_eq_getElem (by k_extra "OM")⟩
    obtain ⟨vhsv, hsv⟩ : ∃ v, sv[kx]? = some v := ⟨_, List.getElem?_eq_getElem (by k_extra "OM")⟩
    obtain ⟨pa, pvs, pn, pps, e3, e4, e5, e6⟩ := LS.sP.get hsv
    rw [List.getElem?_map, hxk] at e3
    obtain rfl : xk.ps = pps := Option.some.inj e3
    refine nGo ?_; clear nGo
    rw [e4] at hsv
    have hsv' : sv[((kx : Nat) : Int).toNat]? = some (.ref pa) := hsv
    have lM := iM.length
    have lM2 := cl.len
    have i2 : ¬ MT = I2 := hne2 _ (.head _)
    have i3 : ¬ I1 = I2 := hne2 _ (.tail _ (.head _))
    clear hsv e4 e3
    k_sweep
    (try dsimp only)
    k_extra "STEPS"
    refine for_list (vs := pvs) (k := pn) (fun jj => (JR ns [(Str.ofString "k", .int (kx : Int) tk2), (Str.ofString "met", .ref MT), (Str.ofString "store", .ref st), (Str.ofString "steps", .ref SL)] MT ((I1, oI1) :: (I2, oI2) :: ((H, listOf hs.toArray nH) :: (S, listOf ss.toArray nS) :: (FL, listOf fs.toArray n2) :: (CL, listOf cv.toArray nC) :: (SL, listOf sv.toArray nSL) :: (KL, listOf kv.toArray nK) :: (D, listOf ws.toArray 0) :: (st, instObj 381 dst) :: (dst, dictOf (stE w.params bk H S Tr kk2 uu) 7) :: (bk, instObj 154 dbk) :: (dbk, dictOf (bkE w.params TX AN FL FN kk) 4) :: (L + 1, o1c) :: (L + 1 + 1, o2c) :: (pt ++ nt))) t kx jj)) rfl rfl (.inr ?_) (by assumption) (News.sub N₂ (by k_extra "SUB")) ⟨mv, nM, Ms, .cons rfl (.cons rfl (.cons rfl (.cons rfl .nil))), rfl, iM, cl⟩ ?_ ?_
    · intro jj m₃ news₃ hR3; obtain ⟨mv, nM, Ms, ag3, rfl, iM, cl⟩ := hR3
      repeat' (apply List.Mem.tail)
      exact List.mem_append_left _ e5
    · intro jj v m₃ news₃ h₃ tk₃ I3 oI3 hi hR9 hne3 cI3 F₃ N₃; obtain ⟨mv, nM, Ms, ag3, rfl, iM, cl⟩ := hR9
      rw [ag3.form] at F₃
      refine Classical.byContradiction fun nGo => ?_
      obtain ⟨p, tp, hp, rfl⟩ := e6.get hi
      have hpl := wlt _ _ hxk p (List.mem_of_getElem? hp)
      have lM := iM.length
      have lM2 := cl.len
      have k3 : ¬ MT = I3 := hne3 _ (.head _)
      have k4 : ¬ I1 = I3 := hne3 _ (.tail _ (.head _))
      have k5 : ¬ I2 = I3 := hne3 _ (.tail _ (.tail _ (.head _)))
      obtain ⟨vhmk, hmk⟩ : ∃ v, mv[kx]? = some v := ⟨_, List.getElem?_eq_getElem (by k_extra "OM")⟩
      obtain ⟨vhmp, hmp⟩ : ∃ v, mv[p]? = some v := ⟨_, List.getElem?_eq_getElem (by k_extra "OM")⟩
      obtain ⟨mk, tmk, f1, f2⟩ := iM.get hmk
      obtain ⟨mp, tmp, f3, f4⟩ := iM.get hmp
      refine nGo ?_; clear nGo
      rw [f2] at hmk
      rw [f4] at hmp
      have hmk' : mv[((kx : Nat) : Int).toNat]? = some (.int (mk : Int) tmk) := hmk
      have hmp' : mv[((p : Nat) : Int).toNat]? = some (.int (mp : Int) tmp) := hmp
      have g1 : mk = Ms.getD kx 0 := by rw [List.getD_eq_getElem?_getD, f1]; rfl
      have g2 : mp = Ms.getD p 0 := by rw [List.getD_eq_getElem?_getD, f3]; rfl
      clear hmk hmp f1 f2 f3 f4
      k_sweep
      (try dsimp only)
      k_extra "STEPS"
      rename News _ _ _ _ => N8
      rw [bitOr_nat] at N8
      have iM2 := iM.set (p := mk ||| mp) (t := tk₃) kx
      rw [g1, g2] at iM2 N8
      refine TurnJ.next (by assumption) N8 (neMap hne3 rfl) ⟨_, nM, _, .cons rfl (.cons rfl (.cons rfl (.cons rfl .nil))), rfl, iM2, cl.upd hxk hp hpl⟩
    · intro m₃ news₃ h₃ tk₃ hR4 F₃ N₃; obtain ⟨mv, nM, Ms, ag3, rfl, iM, cl⟩ := hR4
      rw [e6.length] at cl
      k_extra "STEPS"
      exact TurnJ.next (news' := (MT, listOf mv.toArray nM) :: (I1, oI1) :: ((H, listOf hs.toArray nH) :: (S, listOf ss.toArray nS) :: (FL, listOf fs.toArray n2) :: (CL, listOf cv.toArray nC) :: (SL, listOf sv.toArray nSL) :: (KL, listOf kv.toArray nK) :: (D, listOf ws.toArray 0) :: (st, instObj 381 dst) :: (dst, dictOf (stE w.params bk H S Tr kk2 uu) 7) :: (bk, instObj 154 dbk) :: (dbk, dictOf (bkE w.params TX AN FL FN kk) 4) :: (L + 1, o1c) :: (L + 1 + 1, o2c) :: (pt ++ nt))) F₃ (News.sub N₃ (by k_extra "SUB")) (neMap hne2 rfl) ⟨mv, nM, Ms, .cons (ag3 _ (.tail _ (.head _))) (.cons (ag3 _ (.tail _ (.tail _ (.head _)))) (.cons (ag3 _ (.tail _ (.tail _ (.tail _ (.head _))))) .nil)), rfl, iM, cl.next hxk⟩
  · intro m₂ news₂ h₂ tk₂ hR4 F₂ N₂; obtain ⟨mv, nM, Ms, ag2, rfl, iM, cl⟩ := hR4
    rw [show cv.length = ns.length from lC'] at cl
    k_extra "STEPS"
    exact TurnJ.next (news' := (MT, listOf mv.toArray nM) :: ((H, listOf hs.toArray nH) :: (S, listOf ss.toArray nS) :: (FL, listOf fs.toArray n2) :: (CL, listOf cv.toArray nC) :: (SL, listOf sv.toArray nSL) :: (KL, listOf kv.toArray nK) :: (D, listOf ws.toArray 0) :: (st, instObj 381 dst) :: (dst, dictOf (stE w.params bk H S Tr kk2 uu) 7) :: (bk, instObj 154 dbk) :: (dbk, dictOf (bkE w.params TX AN FL FN kk) 4) :: (L + 1, o1c) :: (L + 1 + 1, o2c) :: (pt ++ nt))) F₂ (News.sub N₂ (by k_extra "SUB")) (neMap hne rfl) ⟨mv, nM, Ms, ag2, rfl, iM, cl.round⟩
end
end Part33
section Part34
noncomputable def pairBody : List Stmt := match ((forBody 12)[0]? : Option Stmt) with | some (Stmt.For _ _ b _ _) => b | _ => []
theorem ln42 : True := by
  k_with_none
  (k_with "LIT0" => (first | with_reducible assumption | ((first | (with_reducible show @LE.le Nat _ (OfNat.ofNat _) (OfNat.ofNat _)) | (with_reducible show @LT.lt Nat _ (OfNat.ofNat _) (OfNat.ofNat _))); exact Nat.le_of_ble_eq_true rfl)))
  (k_with "LIT1" => (first | with_reducible assumption | (with_reducible refine' Nat.lt_of_lt_of_le ?ha ?hb; (case ha => with_reducible assumption); (case hb => k_extra "LIT0")) | (with_reducible refine' Nat.lt_of_le_of_lt ?ha ?hb; (case ha => with_reducible assumption); (case hb => k_extra "LIT0")) | (with_reducible refine' Nat.le_trans ?ha ?hb; (case ha => with_reducible assumption); (case hb => k_extra "LIT0")) | (with_reducible refine' Nat.le_of_lt (Nat.lt_of_lt_of_le ?ha ?hb); (case ha => with_reducible assumption); (case hb => k_extra "LIT0")) | (with_reducible refine' Nat.lt_of_le_of_lt (Nat.le_of_eq ?ha) ?hb; (case ha => with_reducible assumption); (case hb => k_extra "LIT0")) | (with_reducible refine' Nat.le_trans (Nat.le_of_eq ?ha) ?hb; (case ha => with_reducible assumption); (case hb => k_extra "LIT0"))))
  (k_with "LIT2" => (first | with_reducible assumption | (with_reducible refine' Nat.lt_of_lt_of_le ?ha ?hb; (case ha => with_reducible assumption); (case hb => k_extra "LIT1")) | (with_reducible refine' Nat.lt_of_le_of_lt ?ha ?hb; (case ha => with_reducible assumption); (case hb => k_extra "LIT1")) | (with_reducible refine' Nat.le_trans ?ha ?hb; (case ha => with_reducible assumption); (case hb => k_extra "LIT1")) | (with_reducible refine' Nat.le_of_lt (Nat.lt_of_lt_of_le ?ha ?hb); (case ha => with_reducible assumption); (case hb => k_extra "LIT1")) | (with_reducible refine' Nat.lt_of_le_of_lt (Nat.le_of_eq ?ha) ?hb; (case ha => with_reducible assumption); (case hb => k_extra "LIT1")) | (with_reducible refine' Nat.le_trans (Nat.le_of_eq ?ha) ?hb; (case ha => with_reducible assumption); (case hb => k_extra "LIT1"))))
  (k_with "OM" => (first | with_reducible assumption | with_reducible exact Int.natCast_nonneg _ | with_reducible exact Int.ofNat_lt.mpr (by with_reducible assumption) | with_reducible exact i63 (by k_extra "LIT2") | k_extra "LIT2" | omega))
  (k_with "LTC" => (first | with_reducible assumption | (refine' Nat.lt_trans ?ha ?hb; (case ha => with_reducible assumption); (case hb => k_extra "LTC"))))
  (k_with "NEC" => ((refine neN ?_; (try dsimp only); first | (refine' Nat.ne_of_lt ?hc; (case hc => k_extra "LTC")) | (refine' Nat.ne_of_gt ?hc; (case hc => k_extra "LTC")) | omega)))
  (k_with "ROOMN" => (first | (refine' roomN ?ha (Nat.add_assoc _ _ _) ?hb; (case ha => with_reducible assumption); (case hb => exact rfl)) | (refine' roomN ?ha rfl ?hb; (case ha => with_reducible assumption); (case hb => exact rfl)) | (refine' roomN ?ha ((Nat.add_assoc _ _ _).trans (Nat.add_assoc _ _ _)) ?hb; (case ha => with_reducible assumption); (case hb => exact rfl)) | exact Nat.lt_of_le_of_lt (Nat.le_add_right _ _) (by with_reducible assumption)))
  (k_with "MKUNITS" => (first | k_extra "ROOMN" | ktr_units))
  (k_with "MKNE" => (first | k_extra "NEC" | ((try dsimp only); assumption) | ((try dsimp only); exact Ne.symm (by assumption)) | ((try dsimp only); exact News.ne (by with_reducible assumption) (by k_mem) (by k_mem) (ne_typ rfl))))
  (k_with "MKALL" => (first | assumption | exact List.forall_mem_nil _ | (refine' List.forall_mem_cons.mpr ⟨?a, ?b⟩; (case a => k_ne); (case b => k_all))))
  (k_with "GET" => (first | exact Fr.keep (by with_reducible assumption) _ _ (by with_reducible assumption) | exact News.get (by with_reducible assumption) (by k_mem)))
  (k_with "MKINST" => (exact instG (by k_extra "GET") (by k_extra "GET")))
  (k_with "MISLIST" => (exact isListG (by k_extra "GET")))
  (k_with "ENTER" => (((case ks => assumption); (case k1 => assumption); (case k2 => assumption); (case k3 => assumption); (case k4 => assumption); (case kr => assumption); (case k5 => assumption); (case kK => assumption); (case k8 => first | k_extra "ROOMN" | ktr_room); (case k6 => k_is); (case k7 => k_is); (case k9 => exact BindsTo.of_eq rfl); (case kB => exact locs rfl); (case c2 => exact rfl); (case c3 => exact rfl); (case c4 => exact rfl); (case c5 => decide))))
  (k_with "subscriptTail" => ((k_here; (with_reducible show wpAny _ _ (subscriptTail _ _ (Value.ref _) (Value.int _ _)) _ _ _); k_dflt (refine' item_list ?k1 ?k2 ?k3 ?k4 ?_; (case k1 => is_list); (case k4 => assumption); (case k2 => k_extra "OM"); (case k3 => k_extra "OM")))))
  (k_with "subscriptTail" => ((k_here; (with_reducible show wpAny _ _ (subscriptTail _ _ (Value.ref _) (Value.int 1 _)) _ _ _); k_dflt (refine' item_tup1 ?k1 ?_; (case k1 => k_extra "GET")))))
  (k_with "subscriptTail" => ((k_here; (with_reducible show wpAny _ _ (subscriptTail _ _ (Value.ref _) (Value.int 0 _)) _ _ _); k_dflt (refine' item_tup0 ?k1 ?_; (case k1 => k_extra "GET")))))
  (k_with "compareOp Eq ref ref" => ((k_here; (with_reducible show wpAny _ _ (compareOp CmpOp.Eq (Value.ref _) (Value.ref _)) _ _ _); k_dflt (refine' eq_tup ?k1 ?k2 ?k3 ?_; (case k1 => k_extra "GET"); (case k2 => k_extra "GET"); (case k3 => k_units)))))
  (k_with "ite" => (first | (refine ite_pos ?c ?_; (case c => ((try simp only [decide_eq_true_eq, beq_iff_eq, Bool.not_eq_true', decide_eq_false_iff_not, ne_eq]); first | assumption | omega))) | (refine ite_neg ?c ?_; (case c => ((try simp only [decide_eq_true_eq, beq_iff_eq, Bool.not_eq_true', decide_eq_false_iff_not, ne_eq]); first | assumption | omega)))))
  (k_with "execs cons" => (((with_reducible refine wpAny_execs_cons ?_); (try dsimp only); k_fold)))
  (k_with "STEPS" => (((try k_fold); (repeat' (first | walk1 | (k_unfold; (try dsimp only)) | (dsimp only; walk1))); (all_goals (try dsimp only)))))
  (k_with "LV" => (((try dsimp only [WhileStep2]); refine' LeaveM.mk ?k1 ?k2 ?_; (case k1 => with_reducible assumption); (case k2 => with_reducible assumption); intro _ nK; (try dsimp only [List.nil_append, List.cons_append] at nK); revert nK; intro _; (try dsimp only))))
  (k_with "ROOM" => (first | k_extra "ROOMN" | (simp only [recursionLimit, cLine] at *; omega)))
  (k_with "CTX" => (((case B => with_reducible assumption); (case F => with_reducible assumption); (case X => with_reducible assumption); (case T => with_reducible assumption); (case hk => first | exact rfl | assumption); (case hd => k_extra "ROOM"); (case hu => k_extra "ROOM"); (case N => with_reducible assumption))))
  (k_with "KEEP" => (first | with_reducible assumption | exact DerV.keep (by with_reducible assumption) (Fr.keep (by with_reducible assumption)) | exact Sto.keep (by with_reducible assumption) (Fr.keep (by with_reducible assumption)) | exact Bok.keep (by with_reducible assumption) (Fr.keep (by with_reducible assumption)) | exact TupG.keep (by with_reducible assumption) (Fr.keep (by with_reducible assumption)) | exact ⟨_, by k_extra "GET"⟩ | exact ⟨_, _, _, _, rfl, by k_extra "GET"⟩ | assumption))
  (k_with "AFTER" => (((try dsimp only); (try k_sweep))))
  (k_with "call builtin:len" => ((k_here; (with_reducible show wpAny _ _ (call (Value.builtin "len") [Value.ref _]) _ _ _); k_dflt (refine' len_any ?k1 ?k2 ?_; (case k1 => is_list); (case k2 => first | with_reducible assumption | ((try simp only [List.length_append, List.length_cons, List.length_nil, List.length_set]); omega))))))
  (k_with "call builtin:list.append" => ((k_here; (with_reducible show wpAny _ _ (call (Value.builtin _) [Value.ref _, _]) _ _ _); k_dflt (refine' append_any ?k1 ?k2 ?k3 ?_ ?z; (case k1 => k_asm); (case k2 => k_asm); (case k3 => k_upd); (case z => first | with_reducible assumption | ((try simp only [List.length_append, List.length_cons, List.length_nil, List.length_set]); omega)); k_whole); intro _ _ _; (try k_sweep))))
  (k_with "setItem ref int" => ((k_here; (with_reducible show wpAny _ _ (setItem (Value.ref _) (Value.int _ _) _) _ _ _); k_dflt (refine' set_any ?k1 ?k2 ?k3 ?k4 ?k5 ?k6 ?_; (case k1 => k_asm); (case k2 => k_asm); (case k3 => k_upd); (case k4 => k_extra "OM"); (case k5 => first | with_reducible assumption | ((try simp only [List.length_append, List.length_cons, List.length_nil, List.length_set]); omega)); (case k6 => k_extra "OM"); k_whole); intro _ _ _; (try k_sweep))))
  (k_with "CTX2" => (((case B => with_reducible assumption); (case F => with_reducible assumption); (case X => with_reducible assumption); (case T => with_reducible assumption); (case hk => first | exact rfl | assumption); (case hd => k_extra "ROOM"); (case hu => k_extra "ROOM"))))
  (k_with "SEP" => (((repeat' (first | assumption | exact sep_nil | refine sep_app ?_ ?_ | refine sep_cons ?_ ?_)); (all_goals ((repeat' (first | exact nmNil | refine nmCons ?_ ?_)); all_goals first | assumption | k_extra "NEC" | exact Ne.symm (by assumption) | exact News.ne (by with_reducible assumption) (by k_mem) (by k_mem) (ne_typ rfl))))))
  (k_with "SPLIT1" => (first | (refine' News.at0 ?n; (case n => with_reducible assumption)) | (refine' News.at1 ?n; (case n => with_reducible assumption)) | (refine' News.at2 ?n; (case n => with_reducible assumption)) | (refine' News.at3 ?n; (case n => with_reducible assumption)) | (refine' News.at4 ?n; (case n => with_reducible assumption)) | (refine' News.at5 ?n; (case n => with_reducible assumption)) | (refine' News.at6 ?n; (case n => with_reducible assumption))))
  (k_with "pyIter ref" => (refine stopHere ?_))
  (k_with "SEPI" => (((repeat' (first | assumption | exact sep_nil | refine sep_app ?_ ?_ | refine sep_cons ?_ ?_)); (all_goals ((try dsimp only); first | assumption | k_extra "NEC" | exact Ne.symm (by assumption))))))
  (k_with "SUBT" => (first | exact sub_refl | (refine sub_cons ?_; k_extra "SUBT") | (refine sub_right ?_; k_extra "SUBT") | (refine sub_left ?_; k_extra "SUBT")))
  (k_with "MEM" => (first | exact memH | (with_reducible refine List.mem_append_right _ ?_; k_extra "MEM") | (with_reducible refine List.mem_append_left _ ?_; k_extra "MEM") | (with_reducible refine memT ?_; k_extra "MEM")))
  (k_with "SUBT2" => (first | exact sub_refl | (with_reducible refine sub_right ?_; k_extra "SUBT2") | (with_reducible refine sub_left ?_; k_extra "SUBT2") | (with_reducible refine sub_cons ?_; k_extra "SUBT2")))
  (k_with "SUBM" => (((repeat' (first | exact sep_nil | refine sep_app ?_ ?_ | refine sep_cons ?_ ?_)); (all_goals first | k_extra "MEM" | k_extra "SUBT2"))))
  (k_with "SUB" => (((repeat' (first | exact sep_nil | refine sep_app ?_ ?_ | refine sep_cons ?_ ?_)); (all_goals first | k_mem | k_extra "MEM" | k_extra "SUBT2" | (simp only [List.mem_append, List.mem_cons, List.not_mem_nil, true_or, or_true, or_false, false_or]; done) | (intro _ hx9; simp only [hx9, List.mem_append, List.mem_cons, List.not_mem_nil, true_or, or_true, or_false, false_or]; done) | k_extra "SUBT"))))
  (k_with "exec For Name Name cons nil" => ((k_here; (with_unfolding_all refine' For_invVF ?kF ?k1 ?k2 ?_; (case kF => assumption); (case k1 => exact rfl); (case k2 => exact rfl); k_whole))))
  (k_with "exec For Name Call cons nil" => ((k_here; (with_unfolding_all refine' For_invVF ?kF ?k1 ?k2 ?_; (case kF => assumption); (case k1 => exact rfl); (case k2 => exact rfl); k_whole))))
  (k_with "exec For Name Subscript cons nil" => ((k_here; (with_unfolding_all refine' For_invVF ?kF ?k1 ?k2 ?_; (case kF => assumption); (case k1 => exact rfl); (case k2 => exact rfl); k_whole))))
  (k_with "exec For Name Attribute cons nil" => ((k_here; (with_unfolding_all refine' For_invVF ?kF ?k1 ?k2 ?_; (case kF => assumption); (case k1 => exact rfl); (case k2 => exact rfl); k_whole))))
  (k_with "KEEP" => (first | with_reducible assumption | exact DerV.keep (by with_reducible assumption) (Fr.keep (by with_reducible assumption)) | exact Sto.keep (by with_reducible assumption) (Fr.keep (by with_reducible assumption)) | exact Bok.keep (by with_reducible assumption) (Fr.keep (by with_reducible assumption)) | exact TupG.keep (by with_reducible assumption) (Fr.keep (by with_reducible assumption)) | exact ⟨_, by k_extra "GET"⟩ | exact ⟨_, _, _, _, rfl, by k_extra "GET"⟩ | assumption))
  trivial
theorem arP_of {Tp : Value → Int × Int → Prop} {Fx : List (Int × Int)} {fs : List Value} (c : CellsP Tp fs Fx) (nn : ∀ c ∈ Fx, 0 ≤ c.2) : ArP Tp fs (arOf Fx) := by
  refine ⟨by rw [c.length]; unfold arOf; rw [List.length_map], fun i k h => ?_⟩
  unfold arOf at h
  rw [List.getElem?_map] at h
  cases e : Fx[i]? with
  | none => rw [e] at h; cases h
  | some d =>
    rw [e] at h
    have h := Option.some.inj h
    obtain ⟨v, e1, t⟩ := c.get e
    have hd := nn d (List.mem_of_getElem? e)
    refine ⟨v, d.1, e1, ?_⟩
    have e2 : (d.1, (k : Int)) = d := Prod.ext rfl (by show (k : Int) = d.2; rw [← h]; exact Int.toNat_of_nonneg hd)
    rw [e2]
    exact t
section
variable {prog : Program} {w : World} {p : Program} {loose : List Str} {mean : ExcName → Option Value} {mg mb : Str → Option Value} {dp un : Nat} {gd : Option (List Code)} {a : Addr} {ccd : Value} {outer : List Env} {A₀ : Around} {base h₀ : Heap} {L : Addr} {m : Str → Option Value} {s₁ : Shared} {h₁ : Heap} {tk₁ : Nat} {Q : Flow → Shared → Prop}
  (B : Below A₀ base outer h₀) (X : (Mine.hd.heap_1 w.params).In h₀) (T : Top p loose mean mg mb h₀) (hd : dp + 60 < recursionLimit) (hu : un + 1200 < cLine)
include B X T hd hu
theorem ln43 : True := by
  (k_with "call ref" => ((k_here; (with_reducible show wpAny _ _ (call (Value.ref 154) _) _ _ _); refine stopHere ?_)))
  (k_with "call ref" => ((k_here; (with_reducible show wpAny _ _ (call (Value.ref 381) _) _ _ _); refine stopHere ?_)))
  (k_with "call ref" => ((k_here; (with_reducible show wpAny _ _ (call (Value.ref 411) _) _ _ _); refine stopHere ?_)))
  (k_with "call ref" => ((k_here; (with_reducible show wpAny _ _ (call (Value.ref 418) _) _ _ _); refine stopHere ?_)))
  (k_with "call ref" => ((k_here; (with_reducible show wpAny _ _ (call (Value.ref 109) _) _ _ _); refine stopHere ?_)))
  (k_with "call ref" => ((k_here; (with_reducible show wpAny _ _ (call (Value.ref 342) _) _ _ _); refine stopHere ?_)))
  (k_with "call ref" => ((k_here; (with_reducible show wpAny _ _ (call (Value.ref 209) _) _ _ _); refine stopHere ?_)))
  (k_with "call ref" => ((k_here; (with_reducible show wpAny _ _ (call (Value.ref 244) _) _ _ _); refine stopHere ?_)))
  (k_with "call ref" => ((k_here; (with_reducible show wpAny _ _ (call (Value.ref 279) _) _ _ _); refine stopHere ?_)))
  (k_with "call ref" => ((k_here; (with_reducible show wpAny _ _ (call (Value.ref 230) _) _ _ _); refine stopHere ?_)))
  (k_with "call ref" => ((k_here; (with_reducible show wpAny _ _ (call (Value.ref 397) _) _ _ _); refine stopHere ?_)))
  (k_with "call ref" => ((k_here; (with_reducible show wpAny _ _ (call (Value.ref 404) _) _ _ _); refine stopHere ?_)))
  (k_with "SEPL" => (((repeat' (first | assumption | exact sep_nil | refine sep_app ?_ ?_ | refine sep_cons ?_ ?_)); (all_goals first | exact sepOne (by assumption) | exact sepTwo (by assumption) (by assumption) | exact sepFour (by assumption) (by assumption) (by assumption) (by assumption) | ((repeat' (first | exact nmNil | refine nmCons ?_ ?_)); all_goals first | assumption | k_extra "NEC" | exact Ne.symm (by assumption) | exact News.ne (by with_reducible assumption) (by k_mem) (by k_mem) (ne_typ rfl))))))
  (k_with "GET" => (first | (refine' News.get ?n ?k; (case n => with_reducible assumption); (case k => ((repeat' (apply List.Mem.tail)); first | (exact List.mem_append_right _ (by with_reducible assumption)) | (exact List.mem_append_left _ (by with_reducible assumption)) | fail "no"))) | fail "no"))
  (k_with "binaryOp FloorDiv int int" => ((k_here; with_reducible refine floordiv_int ?kbe ?_ (Or.inl (PyProof.noPylong_small ?kbp)); (case kbe => assumption); (case kbp => assumption))))
  (k_with "subscriptTail" => ((k_here; (with_reducible show wpAny _ _ (subscriptTail _ _ (Value.ref _) (Value.int (List.getD _ _ _) _)) _ _ _); rw [getD_one]; k_dflt (refine' item_list ?k1 ?k2 ?k3 ?k4 ?_; (case k1 => is_list); (case k4 => first | assumption | exact rfl); (case k2 => k_extra "OM"); (case k3 => k_extra "OM")))))
  (k_with "subscriptTail" => ((k_here; (with_reducible show wpAny _ _ (subscriptTail _ _ (Value.ref _) (Value.int _ _)) _ _ _); k_dflt (refine' item_list ?k1 ?k2 ?k3 ?k4 ?_; (case k1 => is_list); (case k4 => first | assumption | exact rfl); (case k2 => k_extra "OM"); (case k3 => k_extra "OM")))))
  (k_with "exec While Compare" => (refine stopHere ?_))
  (k_with "exec While" => (refine stopHere ?_))
  trivial
theorem law_pair {H S TX AN FL FN CL SL KL D st dst bk dbk Tr MT : Addr} {ws : List Value} {kk2 uu kk : Nat → Tok} {o1c o2c : Obj} {n : Nat} {nH nS n2 nC nSL nK : Nat} {hs ss fs cv sv kv : List Value} {oF : Obj} {nt pt : List (Addr × Obj)} {Fx Ha Sa : List (Int × Int)} {ns : List Nd} {mv : List Value} {nM : Nat} {Ms : List Nat} {D1 D2 I1 I2 : Addr} {m1 m2 kx gx : Nat} {oI1 oI2 : Obj} {tk tg : Tok} {rep : Nat → Int × Int} {root : Nat → Nat}
    (hn6 : Hid (n ≤ 6)) (LS : LawE prog w KL n hs ss fs cv sv kv oF nt pt Fx Ha Sa ns) (hc1 : o1c.data = .cell (some (.ref CL))) (hc2 : o2c.data = .cell (some (.ref KL)))
    (hz : ∀ p ∈ ((H, listOf hs.toArray nH) :: (S, listOf ss.toArray nS) :: (FL, listOf fs.toArray n2) :: (CL, listOf cv.toArray nC) :: (SL, listOf sv.toArray nSL) :: (KL, listOf kv.toArray nK) :: (D, listOf ws.toArray 0) :: (st, instObj 381 dst) :: (dst, dictOf (stE w.params bk H S Tr kk2 uu) 7) :: (bk, instObj 154 dbk) :: (dbk, dictOf (bkE w.params TX AN FL FN kk) 4) :: (L + 1, o1c) :: (L + 1 + 1, o2c) :: (pt ++ nt)), p.1 ≠ MT) (iM : IntsN mv Ms) (clo : Clo ns Ms ns.length 0 0) (wlt : ∀ (k : Nat) (x : Nd), ns[k]? = some x → ∀ p ∈ x.ps, p < ns.length) (q10 : st < H) (q11 : H < S) (q12 : S < CL) (q13 : CL < SL) (q14 : SL < KL) (wf : WF (arOf Fx) Ha Sa ns rep root) (hkx : kx < n) (hgx : gx < n) (hne : ∀ p ∈ (I1, oI1) :: ((D2, listOf ss.toArray m2) :: (D1, listOf hs.toArray m1) :: (MT, listOf mv.toArray nM) :: ((H, listOf hs.toArray nH) :: (S, listOf ss.toArray nS) :: (FL, listOf fs.toArray n2) :: (CL, listOf cv.toArray nC) :: (SL, listOf sv.toArray nSL) :: (KL, listOf kv.toArray nK) :: (D, listOf ws.toArray 0) :: (st, instObj 381 dst) :: (dst, dictOf (stE w.params bk H S Tr kk2 uu) 7) :: (bk, instObj 154 dbk) :: (dbk, dictOf (bkE w.params TX AN FL FN kk) 4) :: (L + 1, o1c) :: (L + 1 + 1, o2c) :: (pt ++ nt))), ¬ p.1 = I2)
    (F₁ : Fr h₀ L h₁ (fun y => if y = Str.ofString "goal" then some (.int ((0 : Int) + (gx : Int) * 1) tg) else over [(Str.ofString "k", .int (kx : Int) tk), (Str.ofString "stack", .ref D2), (Str.ofString "heap", .ref D1), (Str.ofString "met", .ref MT), (Str.ofString "store", .ref st)] m y)) (N₁ : News h₀ L h₁ ((I2, oI2) :: (I1, oI1) :: ((D2, listOf ss.toArray m2) :: (D1, listOf hs.toArray m1) :: (MT, listOf mv.toArray nM) :: ((H, listOf hs.toArray nH) :: (S, listOf ss.toArray nS) :: (FL, listOf fs.toArray n2) :: (CL, listOf cv.toArray nC) :: (SL, listOf sv.toArray nSL) :: (KL, listOf kv.toArray nK) :: (D, listOf ws.toArray 0) :: (st, instObj 381 dst) :: (dst, dictOf (stE w.params bk H S Tr kk2 uu) 7) :: (bk, instObj 154 dbk) :: (dbk, dictOf (bkE w.params TX AN FL FN kk) 4) :: (L + 1, o1c) :: (L + 1 + 1, o2c) :: (pt ++ nt))))) :
    wpAny (model prog w) (ktrTop dp un gd (Str.ofString "law") lawScope L a ccd (cellsFrom (L + 1) lawScope.names []) outer) (execs pairBody (envX (Str.ofString "law") lawScope L a ccd (cellsFrom (L + 1) lawScope.names []))) (TurnJ h₀ L [(I2, oI2)] I2 (fun m9 news9 => Agree m9 [(Str.ofString "k", .int (kx : Int) tk), (Str.ofString "stack", .ref D2), (Str.ofString "heap", .ref D1), (Str.ofString "met", .ref MT), (Str.ofString "store", .ref st)] ∧ news9 = (I1, oI1) :: ((D2, listOf ss.toArray m2) :: (D1, listOf hs.toArray m1) :: (MT, listOf mv.toArray nM) :: ((H, listOf hs.toArray nH) :: (S, listOf ss.toArray nS) :: (FL, listOf fs.toArray n2) :: (CL, listOf cv.toArray nC) :: (SL, listOf sv.toArray nSL) :: (KL, listOf kv.toArray nK) :: (D, listOf ws.toArray 0) :: (st, instObj 381 dst) :: (dst, dictOf (stE w.params bk H S Tr kk2 uu) 7) :: (bk, instObj 154 dbk) :: (dbk, dictOf (bkE w.params TX AN FL FN kk) 4) :: (L + 1, o1c) :: (L + 1 + 1, o2c) :: (pt ++ nt)))) s₁ Q) (fun _ _ => False) { s₁ with heap := h₁, toks := tk₁ } := by
  generalize hg1 : pairBody = bd
  generalize hg2 : lawScope = sc
  conv at hg1 => lhs; whnf
  conv at hg2 => lhs; whnf
  subst hg1
  subst hg2
  have q10' := ltN q10
  have q11' := ltN q11
  have q12' := ltN q12
  have q13' := ltN q13
  have q14' := ltN q14
  have hn6' : n ≤ 6 := hn6
  have lC' := LS.cC.length
  have lK' := LS.kP.length
  rw [List.length_map] at lC' lK'
  have ln4 := LS.ln
  have lM := iM.length
  have lM2 := clo.len
  have b1 : cv.length ≤ 100 := len6 lC' ln4 hn6'
  have b2 : kv.length ≤ 100 := len6 lK' ln4 hn6'
  have b3 : mv.length ≤ 100 := len6 (lM.trans lM2) ln4 hn6'
  have lH := LS.lH
  have lS := LS.lS
  have lH' := LS.cH.length
  have lS' := LS.cS.length
  rw [show (0 : Int) + (gx : Int) * 1 = (gx : Int) by omega] at F₁
  refine Classical.byContradiction fun nGo => ?_
  obtain ⟨xk, hxk⟩ : ∃ xk, ns[kx]? = some xk := ⟨_, List.getElem?_eq_getElem (by k_extra "OM")⟩
  obtain ⟨xg, hxg⟩ : ∃ xg, ns[gx]? = some xg := ⟨_, List.getElem?_eq_getElem (by k_extra "OM")⟩
  obtain ⟨vhmk, hmk⟩ : ∃ v, mv[kx]? = some v := ⟨_, List.getElem?_eq_getElem (by k_extra "OM")⟩
  obtain ⟨mk, tmk, f1, f2⟩ := iM.get hmk
  rw [f2] at hmk
  have hmk' : mv[((kx : Nat) : Int).toNat]? = some (.int (mk : Int) tmk) := hmk
  have g1 : mk = Ms.getD kx 0 := by rw [List.getD_eq_getElem?_getD, f1]; rfl
  obtain ⟨vhkv, hkv⟩ : ∃ v, kv[gx]? = some v := ⟨_, List.getElem?_eq_getElem (by k_extra "OM")⟩
  obtain ⟨kd, tkd, e1, e2⟩ := LS.kP.get hkv
  rw [List.getElem?_map, hxg] at e1
  obtain rfl : xg.kd = kd := Option.some.inj e1
  rw [e2] at hkv
  have hkv' : kv[((gx : Nat) : Int).toNat]? = some (.str (kindS xg.kd) tkd) := hkv
  obtain ⟨vk, hvk, tvk⟩ := LS.cC.get (i := kx) (c := xk.c) (by rw [List.getElem?_map, hxk]; rfl)
  obtain ⟨vg, hvg, tvg⟩ := LS.cC.get (i := gx) (c := xg.c) (by rw [List.getElem?_map, hxg]; rfl)
  refine nGo ?_; clear nGo
  have hvk' : cv[((kx : Nat) : Int).toNat]? = some vk := hvk
  have hvg' : cv[((gx : Nat) : Int).toNat]? = some vg := hvg
  have hkd := wf.kds _ _ hxg
  have hbt := clo.iff wlt (k := kx) (g := gx) (by k_extra "OM")
  unfold bt at hbt
  rw [← g1] at hbt
  have hdue := (due_bit mk gx).trans hbt
  clear hmk f1 f2 e1 e2 hkv hvk hvg
  have kc : xg.kd = 0 ∨ xg.kd = 1 ∨ xg.kd = 2 := by omega
  have k0 := kindS_comp hkd
  have k2 := kindS_free hkd
  have p6 : ((2 ^ gx : Nat) : Int) ≠ 0 := by have := Nat.two_pow_pos gx; omega
  have p7 : ((2 ^ gx : Nat) : Int).natAbs < 1073741824 := by
    rw [Int.natAbs_natCast]
    exact Nat.lt_of_le_of_lt (Nat.pow_le_pow_right (by decide) (show gx ≤ 6 by omega)) (by decide)
  have pz : (2 : Int) ^ ((gx : Int).toNat) = ((2 ^ gx : Nat) : Int) := by rw [Int.toNat_natCast]; exact (Int.natCast_pow 2 gx).symm
  rw [← pz] at hdue
  obtain ⟨xs9, u9, cF9, u8⟩ := id LS.fP
  have lF9 := cF9.length
  have lF := LS.lF
  have aF : ArP (TupL nt) fs (arOf Fx) := arP_of cF9 LS.nn
  have hdue2 : ((((mk : Int).fdiv (2 ^ ((gx : Int).toNat))).fmod 2 == 1) = true) ↔ Path ns kx gx := by rw [beq_iff_eq]; exact hdue
  clear hdue hbt
  generalize hdu : (((mk : Int).fdiv (2 ^ ((gx : Int).toNat))).fmod 2 == 1) = du at hdue2
  have hdd : (du != du) = false := by simp
  clear u9 u8
  k_extra "STEPS"
  · rename_i hk0
    rw [hdu] at *
    have kd0 : xg.kd = 0 := by rw [k0] at hk0; simpa using hk0
    refine Classical.byContradiction fun nGo => ?_
    obtain ⟨n9, b, sr, hb⟩ := wf.srch1 (by k_extra "OM") (by k_extra "OM") hxg (by k_extra "OM") (k := kx) (by k_extra "OM") (wf.der kx xk hxk)
    obtain ⟨ec, cm⟩ := wf.comp gx xg hxg kd0
    refine nGo ?_; clear nGo
    have hbd : b = du := by rw [Bool.eq_iff_iff]; exact hb.trans hdue2.symm
    subst hbd
    rename News _ _ _ _ => N6
    show wpAny _ _ _ _ _ _
    k_dflt (refine' reaches_spec (bk := bk) (TX := TX) (AN := AN) (FL := FL) (FN := FN) (Tp := TupL nt) (Ar := arOf Fx) (t := rep gx) ?B ?F ?X ?T ?hk ?hd ?hu ?N ?hS ?hB ?hH ?hT ?hF ?hTp ?cH ?cS ?aF ?tc ?tt ?ct ?bH ?bS ?bF ?hs ?_; k_extra "CTX"; (case hS => exact ⟨dst, Tr, kk2, uu, by k_extra "GET", by k_extra "GET"⟩); (case hB => exact ⟨dbk, kk, by k_extra "GET", by k_extra "GET"⟩); (case hH => exact ⟨_, by k_extra "GET"⟩); (case hT => exact ⟨_, by k_extra "GET"⟩); (case hF => exact ⟨_, by k_extra "GET"⟩); (case hTp => exact fun v c t => t.at (News.sub N6 (by k_extra "SUBT"))); (case cH => exact LS.cH); (case cS => exact LS.cS); (case aF => exact aF); (case tc => exact tvk); (case tt => exact ec ▸ tvg.at (News.sub N6 (by k_extra "SUBT"))); (case ct => exact cm.1); (case bH => k_extra "OM"); (case bS => k_extra "OM"); (case bF => k_extra "OM"); (case hs => exact sr))
    clear N6
    intro h' tk' F' N'
    k_extra "AFTER"
    k_extra "STEPS"
    all_goals first | (exact TurnJ.next (by assumption) (by assumption) (neMap hne rfl) ⟨.cons rfl (.cons rfl (.cons rfl (.cons rfl (.cons rfl .nil)))), rfl⟩) | (exfalso; have h9 : (kindS xg.kd == Str.ofString "free") = true := (by assumption); rw [k2, kd0] at h9; exact absurd h9 (by decide))
  · rename_i hk2
    rw [hdu] at *
    have kd2 : xg.kd = 2 := by rw [k2] at hk2; simpa using hk2
    refine Classical.byContradiction fun nGo => ?_
    obtain ⟨b, sr, hb⟩ := wf.occ (by k_extra "OM") (by k_extra "OM") hxg kd2 hxk
    have hbd : b = du := by rw [Bool.eq_iff_iff]; exact hb.trans hdue2.symm
    subst hbd
    obtain ⟨nd, hder⟩ := wf.der gx xg hxg
    refine nGo ?_; clear nGo
    rename News _ _ _ _ => N6
    have hTp : ∀ v c, TupL nt v c → TupG _ v c := fun v c t => t.at (News.sub N6 (by k_extra "SUBT"))
    obtain ⟨rc, trc, dvc⟩ := derV_of hTp LS.cH LS.cS (by k_extra "OM") (by k_extra "OM") hder tvg
    show wpAny _ _ _ _ _ _
    k_dflt (refine' deref_spec ?B ?F ?X ?T ?hk ?hd ?hu ?N ?hS ?hH ?hT ?hv ?_; k_extra "CTX"; (case hS => exact ⟨dst, Tr, kk2, uu, by k_extra "GET", by k_extra "GET"⟩); (case hH => exact ⟨_, by k_extra "GET"⟩); (case hT => exact ⟨_, by k_extra "GET"⟩); (case hv => exact dvc))
    clear N6 hTp dvc
    intro h' tk' F' N'
    k_extra "AFTER"
    k_extra "STEPS"
    rename News _ _ _ _ => N6
    show wpAny _ _ _ _ _ _
    k_dflt (refine' occurs_spec (bk := bk) (TX := TX) (AN := AN) (FL := FL) (FN := FN) (Tp := TupL nt) (Ar := arOf Fx) (t := rep gx) ?B ?F ?X ?T ?hk ?hd ?hu ?N ?hS ?hB ?hH ?hT ?hF ?hTp ?cH ?cS ?aF ?tc ?tt ?bH ?bS ?bF ?hs ?_; k_extra "CTX"; (case hS => exact ⟨dst, Tr, kk2, uu, by k_extra "GET", by k_extra "GET"⟩); (case hB => exact ⟨dbk, kk, by k_extra "GET", by k_extra "GET"⟩); (case hH => exact ⟨_, by k_extra "GET"⟩); (case hT => exact ⟨_, by k_extra "GET"⟩); (case hF => exact ⟨_, by k_extra "GET"⟩); (case hTp => exact fun v c t => t.at (News.sub N6 (by k_extra "SUBT"))); (case cH => exact LS.cH); (case cS => exact LS.cS); (case aF => exact aF); (case tc => exact tvk); (case tt => exact trc.at (News.sub N6 (by k_extra "SUBT"))); (case bH => k_extra "OM"); (case bS => k_extra "OM"); (case bF => k_extra "OM"); (case hs => exact sr))
    clear N6
    intro h' tk' F' N'
    k_extra "AFTER"
    k_extra "STEPS"
    exact TurnJ.next (by assumption) (by assumption) (neMap hne rfl) ⟨.cons rfl (.cons rfl (.cons rfl (.cons rfl (.cons rfl .nil)))), rfl⟩
  · exact TurnJ.next (by assumption) (by assumption) (neMap hne rfl) ⟨.cons rfl (.cons rfl (.cons rfl (.cons rfl (.cons rfl .nil)))), rfl⟩
end
end Part34
section Part35
noncomputable def tupD (c : Int × Int) : PyData := .tuple [.int c.1, .int c.2]
theorem ln44 : True := by
  k_with_none
  (k_with "LIT0" => (first | with_reducible assumption | ((first | (with_reducible show @LE.le Nat _ (OfNat.ofNat _) (OfNat.ofNat _)) | (with_reducible show @LT.lt Nat _ (OfNat.ofNat _) (OfNat.ofNat _))); exact Nat.le_of_ble_eq_true rfl)))
  (k_with "LIT1" => (first | with_reducible assumption | (with_reducible refine' Nat.lt_of_lt_of_le ?ha ?hb; (case ha => with_reducible assumption); (case hb => k_extra "LIT0")) | (with_reducible refine' Nat.lt_of_le_of_lt ?ha ?hb; (case ha => with_reducible assumption); (case hb => k_extra "LIT0")) | (with_reducible refine' Nat.le_trans ?ha ?hb; (case ha => with_reducible assumption); (case hb => k_extra "LIT0")) | (with_reducible refine' Nat.le_of_lt (Nat.lt_of_lt_of_le ?ha ?hb); (case ha => with_reducible assumption); (case hb => k_extra "LIT0")) | (with_reducible refine' Nat.lt_of_le_of_lt (Nat.le_of_eq ?ha) ?hb; (case ha => with_reducible assumption); (case hb => k_extra "LIT0")) | (with_reducible refine' Nat.le_trans (Nat.le_of_eq ?ha) ?hb; (case ha => with_reducible assumption); (case hb => k_extra "LIT0"))))
  (k_with "LIT2" => (first | with_reducible assumption | (with_reducible refine' Nat.lt_of_lt_of_le ?ha ?hb; (case ha => with_reducible assumption); (case hb => k_extra "LIT1")) | (with_reducible refine' Nat.lt_of_le_of_lt ?ha ?hb; (case ha => with_reducible assumption); (case hb => k_extra "LIT1")) | (with_reducible refine' Nat.le_trans ?ha ?hb; (case ha => with_reducible assumption); (case hb => k_extra "LIT1")) | (with_reducible refine' Nat.le_of_lt (Nat.lt_of_lt_of_le ?ha ?hb); (case ha => with_reducible assumption); (case hb => k_extra "LIT1")) | (with_reducible refine' Nat.lt_of_le_of_lt (Nat.le_of_eq ?ha) ?hb; (case ha => with_reducible assumption); (case hb => k_extra "LIT1")) | (with_reducible refine' Nat.le_trans (Nat.le_of_eq ?ha) ?hb; (case ha => with_reducible assumption); (case hb => k_extra "LIT1"))))
  (k_with "OM" => (first | with_reducible assumption | with_reducible exact Int.natCast_nonneg _ | with_reducible exact Int.ofNat_lt.mpr (by with_reducible assumption) | with_reducible exact i63 (by k_extra "LIT2") | k_extra "LIT2" | omega))
  (k_with "LTC" => (first | with_reducible assumption | (refine' Nat.lt_trans ?ha ?hb; (case ha => with_reducible assumption); (case hb => k_extra "LTC"))))
  (k_with "NEC" => ((refine neN ?_; (try dsimp only); first | (refine' Nat.ne_of_lt ?hc; (case hc => k_extra "LTC")) | (refine' Nat.ne_of_gt ?hc; (case hc => k_extra "LTC")) | omega)))
  (k_with "ROOMN" => (first | (refine' roomN ?ha (Nat.add_assoc _ _ _) ?hb; (case ha => with_reducible assumption); (case hb => exact rfl)) | (refine' roomN ?ha rfl ?hb; (case ha => with_reducible assumption); (case hb => exact rfl)) | (refine' roomN ?ha ((Nat.add_assoc _ _ _).trans (Nat.add_assoc _ _ _)) ?hb; (case ha => with_reducible assumption); (case hb => exact rfl)) | exact Nat.lt_of_le_of_lt (Nat.le_add_right _ _) (by with_reducible assumption)))
  (k_with "MKUNITS" => (first | k_extra "ROOMN" | ktr_units))
  (k_with "MKNE" => (first | k_extra "NEC" | ((try dsimp only); assumption) | ((try dsimp only); exact Ne.symm (by assumption)) | ((try dsimp only); exact News.ne (by with_reducible assumption) (by k_mem) (by k_mem) (ne_typ rfl))))
  (k_with "MKALL" => (first | assumption | exact List.forall_mem_nil _ | (refine' List.forall_mem_cons.mpr ⟨?a, ?b⟩; (case a => k_ne); (case b => k_all))))
  (k_with "GET" => (first | exact Fr.keep (by with_reducible assumption) _ _ (by with_reducible assumption) | exact News.get (by with_reducible assumption) (by k_mem)))
  (k_with "MKINST" => (exact instG (by k_extra "GET") (by k_extra "GET")))
  (k_with "MISLIST" => (exact isListG (by k_extra "GET")))
  (k_with "ENTER" => (((case ks => assumption); (case k1 => assumption); (case k2 => assumption); (case k3 => assumption); (case k4 => assumption); (case kr => assumption); (case k5 => assumption); (case kK => assumption); (case k8 => first | k_extra "ROOMN" | ktr_room); (case k6 => k_is); (case k7 => k_is); (case k9 => exact BindsTo.of_eq rfl); (case kB => exact locs rfl); (case c2 => exact rfl); (case c3 => exact rfl); (case c4 => exact rfl); (case c5 => decide))))
  (k_with "subscriptTail" => ((k_here; (with_reducible show wpAny _ _ (subscriptTail _ _ (Value.ref _) (Value.int _ _)) _ _ _); k_dflt (refine' item_list ?k1 ?k2 ?k3 ?k4 ?_; (case k1 => is_list); (case k4 => assumption); (case k2 => k_extra "OM"); (case k3 => k_extra "OM")))))
  (k_with "subscriptTail" => ((k_here; (with_reducible show wpAny _ _ (subscriptTail _ _ (Value.ref _) (Value.int 1 _)) _ _ _); k_dflt (refine' item_tup1 ?k1 ?_; (case k1 => k_extra "GET")))))
  (k_with "subscriptTail" => ((k_here; (with_reducible show wpAny _ _ (subscriptTail _ _ (Value.ref _) (Value.int 0 _)) _ _ _); k_dflt (refine' item_tup0 ?k1 ?_; (case k1 => k_extra "GET")))))
  (k_with "compareOp Eq ref ref" => ((k_here; (with_reducible show wpAny _ _ (compareOp CmpOp.Eq (Value.ref _) (Value.ref _)) _ _ _); k_dflt (refine' eq_tup ?k1 ?k2 ?k3 ?_; (case k1 => k_extra "GET"); (case k2 => k_extra "GET"); (case k3 => k_units)))))
  (k_with "ite" => (first | (refine ite_pos ?c ?_; (case c => ((try simp only [decide_eq_true_eq, beq_iff_eq, Bool.not_eq_true', decide_eq_false_iff_not, ne_eq]); first | assumption | omega))) | (refine ite_neg ?c ?_; (case c => ((try simp only [decide_eq_true_eq, beq_iff_eq, Bool.not_eq_true', decide_eq_false_iff_not, ne_eq]); first | assumption | omega)))))
  (k_with "execs cons" => (((with_reducible refine wpAny_execs_cons ?_); (try dsimp only); k_fold)))
  (k_with "STEPS" => (((try k_fold); (repeat' (first | walk1 | (k_unfold; (try dsimp only)) | (dsimp only; walk1))); (all_goals (try dsimp only)))))
  (k_with "LV" => (((try dsimp only [WhileStep2]); refine' LeaveM.mk ?k1 ?k2 ?_; (case k1 => with_reducible assumption); (case k2 => with_reducible assumption); intro _ nK; (try dsimp only [List.nil_append, List.cons_append] at nK); revert nK; intro _; (try dsimp only))))
  (k_with "ROOM" => (first | k_extra "ROOMN" | (simp only [recursionLimit, cLine] at *; omega)))
  (k_with "CTX" => (((case B => with_reducible assumption); (case F => with_reducible assumption); (case X => with_reducible assumption); (case T => with_reducible assumption); (case hk => first | exact rfl | assumption); (case hd => k_extra "ROOM"); (case hu => k_extra "ROOM"); (case N => with_reducible assumption))))
  (k_with "KEEP" => (first | with_reducible assumption | exact DerV.keep (by with_reducible assumption) (Fr.keep (by with_reducible assumption)) | exact Sto.keep (by with_reducible assumption) (Fr.keep (by with_reducible assumption)) | exact Bok.keep (by with_reducible assumption) (Fr.keep (by with_reducible assumption)) | exact TupG.keep (by with_reducible assumption) (Fr.keep (by with_reducible assumption)) | exact ⟨_, by k_extra "GET"⟩ | exact ⟨_, _, _, _, rfl, by k_extra "GET"⟩ | assumption))
  (k_with "AFTER" => (((try dsimp only); (try k_sweep))))
  (k_with "call builtin:len" => ((k_here; (with_reducible show wpAny _ _ (call (Value.builtin "len") [Value.ref _]) _ _ _); k_dflt (refine' len_any ?k1 ?k2 ?_; (case k1 => is_list); (case k2 => first | with_reducible assumption | ((try simp only [List.length_append, List.length_cons, List.length_nil, List.length_set]); omega))))))
  (k_with "call builtin:list.append" => ((k_here; (with_reducible show wpAny _ _ (call (Value.builtin _) [Value.ref _, _]) _ _ _); k_dflt (refine' append_any ?k1 ?k2 ?k3 ?_ ?z; (case k1 => k_asm); (case k2 => k_asm); (case k3 => k_upd); (case z => first | with_reducible assumption | ((try simp only [List.length_append, List.length_cons, List.length_nil, List.length_set]); omega)); k_whole); intro _ _ _; (try k_sweep))))
  (k_with "setItem ref int" => ((k_here; (with_reducible show wpAny _ _ (setItem (Value.ref _) (Value.int _ _) _) _ _ _); k_dflt (refine' set_any ?k1 ?k2 ?k3 ?k4 ?k5 ?k6 ?_; (case k1 => k_asm); (case k2 => k_asm); (case k3 => k_upd); (case k4 => k_extra "OM"); (case k5 => first | with_reducible assumption | ((try simp only [List.length_append, List.length_cons, List.length_nil, List.length_set]); omega)); (case k6 => k_extra "OM"); k_whole); intro _ _ _; (try k_sweep))))
  (k_with "CTX2" => (((case B => with_reducible assumption); (case F => with_reducible assumption); (case X => with_reducible assumption); (case T => with_reducible assumption); (case hk => first | exact rfl | assumption); (case hd => k_extra "ROOM"); (case hu => k_extra "ROOM"))))
  (k_with "SEP" => (((repeat' (first | assumption | exact sep_nil | refine sep_app ?_ ?_ | refine sep_cons ?_ ?_)); (all_goals ((repeat' (first | exact nmNil | refine nmCons ?_ ?_)); all_goals first | assumption | k_extra "NEC" | exact Ne.symm (by assumption) | exact News.ne (by with_reducible assumption) (by k_mem) (by k_mem) (ne_typ rfl))))))
  (k_with "SPLIT1" => (first | (refine' News.at0 ?n; (case n => with_reducible assumption)) | (refine' News.at1 ?n; (case n => with_reducible assumption)) | (refine' News.at2 ?n; (case n => with_reducible assumption)) | (refine' News.at3 ?n; (case n => with_reducible assumption)) | (refine' News.at4 ?n; (case n => with_reducible assumption)) | (refine' News.at5 ?n; (case n => with_reducible assumption)) | (refine' News.at6 ?n; (case n => with_reducible assumption))))
  (k_with "pyIter ref" => (refine stopHere ?_))
  (k_with "SEPI" => (((repeat' (first | assumption | exact sep_nil | refine sep_app ?_ ?_ | refine sep_cons ?_ ?_)); (all_goals ((try dsimp only); first | assumption | k_extra "NEC" | exact Ne.symm (by assumption))))))
  (k_with "SUBT" => (first | exact sub_refl | (refine sub_cons ?_; k_extra "SUBT") | (refine sub_right ?_; k_extra "SUBT") | (refine sub_left ?_; k_extra "SUBT")))
  (k_with "MEM" => (first | exact memH | (with_reducible refine List.mem_append_right _ ?_; k_extra "MEM") | (with_reducible refine List.mem_append_left _ ?_; k_extra "MEM") | (with_reducible refine memT ?_; k_extra "MEM")))
  (k_with "SUBT2" => (first | exact sub_refl | (with_reducible refine sub_right ?_; k_extra "SUBT2") | (with_reducible refine sub_left ?_; k_extra "SUBT2") | (with_reducible refine sub_cons ?_; k_extra "SUBT2")))
  (k_with "SUBM" => (((repeat' (first | exact sep_nil | refine sep_app ?_ ?_ | refine sep_cons ?_ ?_)); (all_goals first | k_extra "MEM" | k_extra "SUBT2"))))
  (k_with "SUB" => (((repeat' (first | exact sep_nil | refine sep_app ?_ ?_ | refine sep_cons ?_ ?_)); (all_goals first | k_mem | k_extra "MEM" | k_extra "SUBT2" | (simp only [List.mem_append, List.mem_cons, List.not_mem_nil, true_or, or_true, or_false, false_or]; done) | (intro _ hx9; simp only [hx9, List.mem_append, List.mem_cons, List.not_mem_nil, true_or, or_true, or_false, false_or]; done) | k_extra "SUBT"))))
  (k_with "exec For Name Name cons nil" => ((k_here; (with_unfolding_all refine' For_invVF ?kF ?k1 ?k2 ?_; (case kF => assumption); (case k1 => exact rfl); (case k2 => exact rfl); k_whole))))
  (k_with "exec For Name Call cons nil" => ((k_here; (with_unfolding_all refine' For_invVF ?kF ?k1 ?k2 ?_; (case kF => assumption); (case k1 => exact rfl); (case k2 => exact rfl); k_whole))))
  (k_with "exec For Name Subscript cons nil" => ((k_here; (with_unfolding_all refine' For_invVF ?kF ?k1 ?k2 ?_; (case kF => assumption); (case k1 => exact rfl); (case k2 => exact rfl); k_whole))))
  (k_with "exec For Name Attribute cons nil" => ((k_here; (with_unfolding_all refine' For_invVF ?kF ?k1 ?k2 ?_; (case kF => assumption); (case k1 => exact rfl); (case k2 => exact rfl); k_whole))))
  (k_with "KEEP" => (first | with_reducible assumption | exact DerV.keep (by with_reducible assumption) (Fr.keep (by with_reducible assumption)) | exact Sto.keep (by with_reducible assumption) (Fr.keep (by with_reducible assumption)) | exact Bok.keep (by with_reducible assumption) (Fr.keep (by with_reducible assumption)) | exact TupG.keep (by with_reducible assumption) (Fr.keep (by with_reducible assumption)) | exact ⟨_, by k_extra "GET"⟩ | exact ⟨_, _, _, _, rfl, by k_extra "GET"⟩ | assumption))
  trivial
theorem reads_cells {h : Heap} {Tp : Value → Int × Int → Prop} (hTp : ∀ v c, Tp v c → TupG h v c) : ∀ {vs : List Value} {cs : List (Int × Int)}, CellsP Tp vs cs → ReadsAll h vs (cs.map tupD) []
  | _, _, .nil => .nil
  | _, _, .cons t r => by
    obtain ⟨a, t1, t2, n, rfl, e⟩ := hTp _ _ t
    exact ReadsAll.cons (as := []) (bs := []) (readsTup e) (reads_cells hTp r)
theorem lay_cells : ∀ cs : List (Int × Int), PyData.canLayAll0 (cs.map tupD) = true
  | [] => by simp [PyData.canLayAll0]
  | c :: cs => by
    rw [List.map_cons, PyData.canLayAll0, lay_cells cs, Bool.and_true]
    simp [tupD, PyData.canLay0, PyData.canLayAll0]
theorem depth_cells : ∀ cs : List (Int × Int), PyData.depthAll (cs.map tupD) ≤ 1
  | [] => by simp [PyData.depthAll]
  | c :: cs => by
    rw [List.map_cons, PyData.depthAll]
    have h1 := depth_cells cs
    have h2 : (tupD c).depth = 1 := by simp [tupD, PyData.depth, PyData.depthAll]
    omega
theorem mix_cells : ∀ cs : List (Int × Int), SeqAt.noMixAll (cs.map tupD) (cs.map tupD) = true
  | [] => by simp [SeqAt.noMixAll]
  | c :: cs => by
    rw [List.map_cons, SeqAt.noMixAll, mix_cells cs, Bool.and_true]
    simp [tupD, SeqAt.noMix, SeqAt.noMixAll]
theorem same_cells : ∀ cs : List (Int × Int), PySem.Spec.sameAll (cs.map tupD) (cs.map tupD) = true
  | [] => by simp [PySem.Spec.sameAll]
  | c :: cs => by
    rw [List.map_cons, PySem.Spec.sameAll, same_cells cs, Bool.and_true]
    simp [tupD, PySem.Spec.same, PySem.Spec.sameAll]
section
variable {prog : Program} {w : World} {A : Around} {E : Value → Shared → Prop} {s : Shared} {a b : Addr} {n k : Nat}
theorem eq_lists {Q : Value → Shared → Prop} {Tp : Value → Int × Int → Prop} {vs : List Value} {cs : List (Int × Int)} (hTp : ∀ v c, Tp v c → TupG s.heap v c) (hc : CellsP Tp vs cs) (ha : s.heap.get? a = some (listOf vs.toArray n)) (hb : s.heap.get? b = some (listOf vs.toArray k)) (hu : A.units + 64 < cLine) (h : Q (.bool true) s) :
    wpAny (model prog w) A (compareOp .Eq (.ref a) (.ref b)) Q E s := by
  have r := reads_cells hTp hc
  have sh : SeqAt.shaped (.list (cs.map tupD)) = true := by
    unfold SeqAt.shaped
    have h1 := depth_cells cs
    rw [PyData.canLay0, lay_cells, Bool.true_and, decide_eq_true_eq, PyData.depth]
    omega
  refine eq_dataH_same (Reads.list ha rfl rfl (by simpa using r)) (Reads.list hb rfl rfl (by simpa using r)) sh sh hu (by rw [SeqAt.noMix]; exact mix_cells cs) ?_
  rw [PySem.Spec.same, same_cells]
  exact h
end
section
variable {prog : Program} {w : World} {p : Program} {loose : List Str} {mean : ExcName → Option Value} {mg mb : Str → Option Value} {dp un : Nat} {gd : Option (List Code)} {a : Addr} {ccd : Value} {outer : List Env} {A₀ : Around} {base h₀ : Heap} {L : Addr} {m : Str → Option Value} {s₁ : Shared} {h₁ : Heap} {tk₁ : Nat} {Q : Flow → Shared → Prop}
  (B : Below A₀ base outer h₀) (X : (Mine.hd.heap_1 w.params).In h₀) (T : Top p loose mean mg mb h₀) (hd : dp + 60 < recursionLimit) (hu : un + 1200 < cLine)
include B X T hd hu
theorem ln45 : True := by
  (k_with "call ref" => ((k_here; (with_reducible show wpAny _ _ (call (Value.ref 154) _) _ _ _); refine stopHere ?_)))
  (k_with "call ref" => ((k_here; (with_reducible show wpAny _ _ (call (Value.ref 381) _) _ _ _); refine stopHere ?_)))
  (k_with "call ref" => ((k_here; (with_reducible show wpAny _ _ (call (Value.ref 411) _) _ _ _); refine stopHere ?_)))
  (k_with "call ref" => ((k_here; (with_reducible show wpAny _ _ (call (Value.ref 418) _) _ _ _); refine stopHere ?_)))
  (k_with "call ref" => ((k_here; (with_reducible show wpAny _ _ (call (Value.ref 109) _) _ _ _); refine stopHere ?_)))
  (k_with "call ref" => ((k_here; (with_reducible show wpAny _ _ (call (Value.ref 342) _) _ _ _); refine stopHere ?_)))
  (k_with "call ref" => ((k_here; (with_reducible show wpAny _ _ (call (Value.ref 209) _) _ _ _); refine stopHere ?_)))
  (k_with "call ref" => ((k_here; (with_reducible show wpAny _ _ (call (Value.ref 244) _) _ _ _); refine stopHere ?_)))
  (k_with "call ref" => ((k_here; (with_reducible show wpAny _ _ (call (Value.ref 279) _) _ _ _); refine stopHere ?_)))
  (k_with "call ref" => ((k_here; (with_reducible show wpAny _ _ (call (Value.ref 230) _) _ _ _); refine stopHere ?_)))
  (k_with "call ref" => ((k_here; (with_reducible show wpAny _ _ (call (Value.ref 397) _) _ _ _); refine stopHere ?_)))
  (k_with "call ref" => ((k_here; (with_reducible show wpAny _ _ (call (Value.ref 404) _) _ _ _); refine stopHere ?_)))
  (k_with "SEPL" => (((repeat' (first | assumption | exact sep_nil | refine sep_app ?_ ?_ | refine sep_cons ?_ ?_)); (all_goals first | exact sepOne (by assumption) | exact sepTwo (by assumption) (by assumption) | exact sepFour (by assumption) (by assumption) (by assumption) (by assumption) | ((repeat' (first | exact nmNil | refine nmCons ?_ ?_)); all_goals first | assumption | k_extra "NEC" | exact Ne.symm (by assumption) | exact News.ne (by with_reducible assumption) (by k_mem) (by k_mem) (ne_typ rfl))))))
  (k_with "compareOp Eq ref ref" => (refine stopHere ?_))
  (k_with "subscriptTail" => ((k_here; (with_reducible show wpAny _ _ (subscriptTail _ _ (Value.ref _) (Value.int (List.getD _ _ _) _)) _ _ _); rw [getD_one]; k_dflt (refine' item_list ?k1 ?k2 ?k3 ?k4 ?_; (case k1 => is_list); (case k4 => first | assumption | exact rfl); (case k2 => k_extra "OM"); (case k3 => k_extra "OM")))))
  (k_with "subscriptTail" => ((k_here; (with_reducible show wpAny _ _ (subscriptTail _ _ (Value.ref _) (Value.int _ _)) _ _ _); k_dflt (refine' item_list ?k1 ?k2 ?k3 ?k4 ?_; (case k1 => is_list); (case k4 => first | assumption | exact rfl); (case k2 => k_extra "OM"); (case k3 => k_extra "OM")))))
  (k_with "exec While Compare" => (refine stopHere ?_))
  (k_with "exec While" => (refine stopHere ?_))
  trivial
theorem law_rest10 {H S TX AN FL FN CL SL KL D st dst bk dbk Tr MT : Addr} {ws : List Value} {kk2 uu kk : Nat → Tok} {o1c o2c : Obj} {n : Nat} {nH nS n2 nC nSL nK : Nat} {hs ss fs cv sv kv : List Value} {oF : Obj} {nt pt : List (Addr × Obj)} {Fx Ha Sa : List (Int × Int)} {ns : List Nd} {mv : List Value} {nM : Nat} {Ms : List Nat}
    (hn6 : Hid (n ≤ 6)) (LS : LawE prog w KL n hs ss fs cv sv kv oF nt pt Fx Ha Sa ns) (hc1 : o1c.data = .cell (some (.ref CL))) (hc2 : o2c.data = .cell (some (.ref KL)))
    (hz : ∀ p ∈ ((H, listOf hs.toArray nH) :: (S, listOf ss.toArray nS) :: (FL, listOf fs.toArray n2) :: (CL, listOf cv.toArray nC) :: (SL, listOf sv.toArray nSL) :: (KL, listOf kv.toArray nK) :: (D, listOf ws.toArray 0) :: (st, instObj 381 dst) :: (dst, dictOf (stE w.params bk H S Tr kk2 uu) 7) :: (bk, instObj 154 dbk) :: (dbk, dictOf (bkE w.params TX AN FL FN kk) 4) :: (L + 1, o1c) :: (L + 1 + 1, o2c) :: (pt ++ nt)), p.1 ≠ MT) (iM : IntsN mv Ms) (clo : Clo ns Ms ns.length 0 0) (wlt : ∀ (k : Nat) (x : Nd), ns[k]? = some x → ∀ p ∈ x.ps, p < ns.length) (q10 : st < H) (q11 : H < S) (q12 : S < CL) (q13 : CL < SL) (q14 : SL < KL)
    (F₁ : Fr h₀ L h₁ (over [(Str.ofString "met", .ref MT), (Str.ofString "store", .ref st), (Str.ofString "steps", .ref SL)] m)) (N₁ : News h₀ L h₁ ((MT, listOf mv.toArray nM) :: ((H, listOf hs.toArray nH) :: (S, listOf ss.toArray nS) :: (FL, listOf fs.toArray n2) :: (CL, listOf cv.toArray nC) :: (SL, listOf sv.toArray nSL) :: (KL, listOf kv.toArray nK) :: (D, listOf ws.toArray 0) :: (st, instObj 381 dst) :: (dst, dictOf (stE w.params bk H S Tr kk2 uu) 7) :: (bk, instObj 154 dbk) :: (dbk, dictOf (bkE w.params TX AN FL FN kk) 4) :: (L + 1, o1c) :: (L + 1 + 1, o2c) :: (pt ++ nt))))
    (ret : ∀ h' tk m', Fr h₀ L h' m' → Q (.ret (.bool true)) { s₁ with heap := h', toks := tk }) :
    wpAny (model prog w) (ktrTop dp un gd (Str.ofString "law") lawScope L a ccd (cellsFrom (L + 1) lawScope.names []) outer) (execs (lawRest 10) (envX (Str.ofString "law") lawScope L a ccd (cellsFrom (L + 1) lawScope.names []))) Q (fun _ _ => False) { s₁ with heap := h₁, toks := tk₁ } := by
  generalize hg1 : lawRest 10 = bd
  generalize hg2 : lawScope = sc
  conv at hg1 => lhs; whnf
  conv at hg2 => lhs; whnf
  subst hg1
  subst hg2
  have q10' := ltN q10
  have q11' := ltN q11
  have q12' := ltN q12
  have q13' := ltN q13
  have q14' := ltN q14
  have hn6' : n ≤ 6 := hn6
  have lC' := LS.cC.length
  have lK' := LS.kP.length
  rw [List.length_map] at lC' lK'
  have ln4 := LS.ln
  have lM := iM.length
  have lM2 := clo.len
  have b1 : cv.length ≤ 100 := len6 lC' ln4 hn6'
  have b2 : kv.length ≤ 100 := len6 lK' ln4 hn6'
  have b3 : mv.length ≤ 100 := len6 (lM.trans lM2) ln4 hn6'
  have lH := LS.lH
  have lS := LS.lS
  have lH' := LS.cH.length
  have lS' := LS.cS.length
  obtain ⟨rep, root, wf⟩ := LS.wf
  k_extra "STEPS"
  rename IsRange _ _ _ _ _ _ _ _ => hr9
  rename Fr _ _ _ _ => F9
  rename News _ _ _ _ => N9
  obtain ⟨D1, D2, m1, m2, F8, N8⟩ : ∃ D1 D2 m1 m2, Fr h₀ L _ (over [(Str.ofString "stack", .ref D2), (Str.ofString "heap", .ref D1), (Str.ofString "met", .ref MT), (Str.ofString "store", .ref st)] _) ∧ News h₀ L _ ((D2, listOf ss.toArray m2) :: (D1, listOf hs.toArray m1) :: (MT, listOf mv.toArray nM) :: ((H, listOf hs.toArray nH) :: (S, listOf ss.toArray nS) :: (FL, listOf fs.toArray n2) :: (CL, listOf cv.toArray nC) :: (SL, listOf sv.toArray nSL) :: (KL, listOf kv.toArray nK) :: (D, listOf ws.toArray 0) :: (st, instObj 381 dst) :: (dst, dictOf (stE w.params bk H S Tr kk2 uu) 7) :: (bk, instObj 154 dbk) :: (dbk, dictOf (bkE w.params TX AN FL FN kk) 4) :: (L + 1, o1c) :: (L + 1 + 1, o2c) :: (pt ++ nt))) := ⟨_, _, _, _, Mine.Fr.form F9 (.cons rfl (.cons rfl (.cons rfl (.cons rfl .nil)))), N9⟩
  clear F9 N9
  refine for_range (n := cv.length) (fun kx m9 news9 => Agree m9 [(Str.ofString "stack", .ref D2), (Str.ofString "heap", .ref D1), (Str.ofString "met", .ref MT), (Str.ofString "store", .ref st)] ∧ news9 = ((D2, listOf ss.toArray m2) :: (D1, listOf hs.toArray m1) :: (MT, listOf mv.toArray nM) :: ((H, listOf hs.toArray nH) :: (S, listOf ss.toArray nS) :: (FL, listOf fs.toArray n2) :: (CL, listOf cv.toArray nC) :: (SL, listOf sv.toArray nSL) :: (KL, listOf kv.toArray nK) :: (D, listOf ws.toArray 0) :: (st, instObj 381 dst) :: (dst, dictOf (stE w.params bk H S Tr kk2 uu) 7) :: (bk, instObj 154 dbk) :: (dbk, dictOf (bkE w.params TX AN FL FN kk) 4) :: (L + 1, o1c) :: (L + 1 + 1, o2c) :: (pt ++ nt)))) rfl rfl hr9 (range0_small (by k_extra "OM")) range0_size F8 N8 ⟨.cons rfl (.cons rfl (.cons rfl (.cons rfl .nil))), rfl⟩ ?_ ?_
  · intro kx tk m₂ news₂ h₂ tk₂ I1 oI1 hkx hR9 hne cI1 F₂ N₂; obtain ⟨ag2, rfl⟩ := hR9
    rw [ag2.form] at F₂
    rw [show (0 : Int) + (kx : Int) * 1 = (kx : Int) by omega] at F₂
    clear hr9 F8 N8
    k_sweep
    (try dsimp only)
    k_extra "STEPS"
    rename IsRange _ _ _ _ _ _ _ _ => hr9
    rename Fr _ _ _ _ => F9
    rename News _ _ _ _ => N9
    refine for_range (n := cv.length) (fun gx m9 news9 => Agree m9 [(Str.ofString "k", .int (kx : Int) tk), (Str.ofString "stack", .ref D2), (Str.ofString "heap", .ref D1), (Str.ofString "met", .ref MT), (Str.ofString "store", .ref st)] ∧ news9 = (I1, oI1) :: ((D2, listOf ss.toArray m2) :: (D1, listOf hs.toArray m1) :: (MT, listOf mv.toArray nM) :: ((H, listOf hs.toArray nH) :: (S, listOf ss.toArray nS) :: (FL, listOf fs.toArray n2) :: (CL, listOf cv.toArray nC) :: (SL, listOf sv.toArray nSL) :: (KL, listOf kv.toArray nK) :: (D, listOf ws.toArray 0) :: (st, instObj 381 dst) :: (dst, dictOf (stE w.params bk H S Tr kk2 uu) 7) :: (bk, instObj 154 dbk) :: (dbk, dictOf (bkE w.params TX AN FL FN kk) 4) :: (L + 1, o1c) :: (L + 1 + 1, o2c) :: (pt ++ nt)))) rfl rfl hr9 (range0_small (by k_extra "OM")) range0_size F9 N9 ⟨.cons rfl (.cons rfl (.cons rfl (.cons rfl (.cons rfl .nil)))), rfl⟩ ?_ ?_
    · intro gx tg m₃ news₃ h₃ tk₃ I2 oI2 hgx hR9 hne2 cI2 F₃ N₃; obtain ⟨ag3, rfl⟩ := hR9
      rw [ag3.form] at F₃
      exact wpAny_mono (law_pair (MT := MT) (kk := kk) (uu := uu) (kk2 := kk2) (Tr := Tr) B X T hd hu hn6 LS hc1 hc2 hz iM clo wlt q10 q11 q12 q13 q14 wf (by k_extra "OM") (by k_extra "OM") hne2 F₃ N₃) (fun _ _ h => h) (fun _ _ e => e.elim)
    · intro m₃ news₃ h₃ tk₃ hR4 F₃ N₃; obtain ⟨ag3, rfl⟩ := hR4
      k_extra "STEPS"
      exact TurnJ.next F₃ N₃ (neMap hne rfl) ⟨.cons (ag3 _ (.tail _ (.head _))) (.cons (ag3 _ (.tail _ (.tail _ (.head _)))) (.cons (ag3 _ (.tail _ (.tail _ (.tail _ (.head _))))) (.cons (ag3 _ (.tail _ (.tail _ (.tail _ (.tail _ (.head _)))))) .nil))), rfl⟩
  · intro m₂ news₂ h₂ tk₂ hR4 F₂ N₂; obtain ⟨ag2, rfl⟩ := hR4
    rw [ag2.form] at F₂
    clear hr9 F8 N8
    k_sweep
    (try dsimp only)
    k_extra "STEPS"
    rename News _ _ _ _ => N6
    show wpAny _ _ _ _ _ _
    refine eq_lists (Tp := TupL nt) (fun v c t => t.at (News.sub N6 (by k_extra "SUBT"))) LS.cH (News.get N6 (by k_mem)) (News.get N6 (by k_mem)) (by k_units) ?_
    k_extra "STEPS"
    show wpAny _ _ _ _ _ _
    refine eq_lists (Tp := TupL nt) (fun v c t => t.at (News.sub N6 (by k_extra "SUBT"))) LS.cS (News.get N6 (by k_mem)) (News.get N6 (by k_mem)) (by k_units) ?_
    k_extra "STEPS"
    exact ret _ _ _ F₂
end
end Part35
section Part36
section
variable {prog : Program} {w : World} {p : Program} {loose : List Str} {mean : ExcName → Option Value} {mg mb : Str → Option Value} {dp un : Nat} {gd : Option (List Code)} {a : Addr} {ccd : Value} {outer : List Env} {A₀ : Around} {base h₀ : Heap} {L : Addr} {m : Str → Option Value} {s₁ : Shared} {h₁ : Heap} {tk₁ : Nat} {Q : Flow → Shared → Prop}
  (B : Below A₀ base outer h₀) (X : (Mine.hd.heap_1 w.params).In h₀) (T : Top p loose mean mg mb h₀) (hd : dp + 60 < recursionLimit) (hu : un + 1200 < cLine)
include B X T hd hu
theorem ln46 : True := by
  k_with_none
  (k_with "LIT0" => (first | with_reducible assumption | ((first | (with_reducible show @LE.le Nat _ (OfNat.ofNat _) (OfNat.ofNat _)) | (with_reducible show @LT.lt Nat _ (OfNat.ofNat _) (OfNat.ofNat _))); exact Nat.le_of_ble_eq_true rfl)))
  (k_with "LIT1" => (first | with_reducible assumption | (with_reducible refine' Nat.lt_of_lt_of_le ?ha ?hb; (case ha => with_reducible assumption); (case hb => k_extra "LIT0")) | (with_reducible refine' Nat.lt_of_le_of_lt ?ha ?hb; (case ha => with_reducible assumption); (case hb => k_extra "LIT0")) | (with_reducible refine' Nat.le_trans ?ha ?hb; (case ha => with_reducible assumption); (case hb => k_extra "LIT0")) | (with_reducible refine' Nat.le_of_lt (Nat.lt_of_lt_of_le ?ha ?hb); (case ha => with_reducible assumption); (case hb => k_extra "LIT0")) | (with_reducible refine' Nat.lt_of_le_of_lt (Nat.le_of_eq ?ha) ?hb; (case ha => with_reducible assumption); (case hb => k_extra "LIT0")) | (with_reducible refine' Nat.le_trans (Nat.le_of_eq ?ha) ?hb; (case ha => with_reducible assumption); (case hb => k_extra "LIT0"))))
  (k_with "LIT2" => (first | with_reducible assumption | (with_reducible refine' Nat.lt_of_lt_of_le ?ha ?hb; (case ha => with_reducible assumption); (case hb => k_extra "LIT1")) | (with_reducible refine' Nat.lt_of_le_of_lt ?ha ?hb; (case ha => with_reducible assumption); (case hb => k_extra "LIT1")) | (with_reducible refine' Nat.le_trans ?ha ?hb; (case ha => with_reducible assumption); (case hb => k_extra "LIT1")) | (with_reducible refine' Nat.le_of_lt (Nat.lt_of_lt_of_le ?ha ?hb); (case ha => with_reducible assumption); (case hb => k_extra "LIT1")) | (with_reducible refine' Nat.lt_of_le_of_lt (Nat.le_of_eq ?ha) ?hb; (case ha => with_reducible assumption); (case hb => k_extra "LIT1")) | (with_reducible refine' Nat.le_trans (Nat.le_of_eq ?ha) ?hb; (case ha => with_reducible assumption); (case hb => k_extra "LIT1"))))
  (k_with "OM" => (first | with_reducible assumption | with_reducible exact Int.natCast_nonneg _ | with_reducible exact Int.ofNat_lt.mpr (by with_reducible assumption) | with_reducible exact i63 (by k_extra "LIT2") | k_extra "LIT2" | omega))
  (k_with "LTC" => (first | with_reducible assumption | (refine' Nat.lt_trans ?ha ?hb; (case ha => with_reducible assumption); (case hb => k_extra "LTC"))))
  (k_with "NEC" => ((refine neN ?_; (try dsimp only); first | (refine' Nat.ne_of_lt ?hc; (case hc => k_extra "LTC")) | (refine' Nat.ne_of_gt ?hc; (case hc => k_extra "LTC")) | omega)))
  (k_with "ROOMN" => (first | (refine' roomN ?ha (Nat.add_assoc _ _ _) ?hb; (case ha => with_reducible assumption); (case hb => exact rfl)) | (refine' roomN ?ha rfl ?hb; (case ha => with_reducible assumption); (case hb => exact rfl)) | (refine' roomN ?ha ((Nat.add_assoc _ _ _).trans (Nat.add_assoc _ _ _)) ?hb; (case ha => with_reducible assumption); (case hb => exact rfl)) | exact Nat.lt_of_le_of_lt (Nat.le_add_right _ _) (by with_reducible assumption)))
  (k_with "MKUNITS" => (first | k_extra "ROOMN" | ktr_units))
  (k_with "MKNE" => (first | k_extra "NEC" | ((try dsimp only); assumption) | ((try dsimp only); exact Ne.symm (by assumption)) | ((try dsimp only); exact News.ne (by with_reducible assumption) (by k_mem) (by k_mem) (ne_typ rfl))))
  (k_with "MKALL" => (first | assumption | exact List.forall_mem_nil _ | (refine' List.forall_mem_cons.mpr ⟨?a, ?b⟩; (case a => k_ne); (case b => k_all))))
  (k_with "GET" => (first | exact Fr.keep (by with_reducible assumption) _ _ (by with_reducible assumption) | exact News.get (by with_reducible assumption) (by k_mem)))
  (k_with "MKINST" => (exact instG (by k_extra "GET") (by k_extra "GET")))
  (k_with "MISLIST" => (exact isListG (by k_extra "GET")))
  (k_with "ENTER" => (((case ks => assumption); (case k1 => assumption); (case k2 => assumption); (case k3 => assumption); (case k4 => assumption); (case kr => assumption); (case k5 => assumption); (case kK => assumption); (case k8 => first | k_extra "ROOMN" | ktr_room); (case k6 => k_is); (case k7 => k_is); (case k9 => exact BindsTo.of_eq rfl); (case kB => exact locs rfl); (case c2 => exact rfl); (case c3 => exact rfl); (case c4 => exact rfl); (case c5 => decide))))
  (k_with "subscriptTail" => ((k_here; (with_reducible show wpAny _ _ (subscriptTail _ _ (Value.ref _) (Value.int _ _)) _ _ _); k_dflt (refine' item_list ?k1 ?k2 ?k3 ?k4 ?_; (case k1 => is_list); (case k4 => assumption); (case k2 => k_extra "OM"); (case k3 => k_extra "OM")))))
  (k_with "subscriptTail" => ((k_here; (with_reducible show wpAny _ _ (subscriptTail _ _ (Value.ref _) (Value.int 1 _)) _ _ _); k_dflt (refine' item_tup1 ?k1 ?_; (case k1 => k_extra "GET")))))
  (k_with "subscriptTail" => ((k_here; (with_reducible show wpAny _ _ (subscriptTail _ _ (Value.ref _) (Value.int 0 _)) _ _ _); k_dflt (refine' item_tup0 ?k1 ?_; (case k1 => k_extra "GET")))))
  (k_with "compareOp Eq ref ref" => ((k_here; (with_reducible show wpAny _ _ (compareOp CmpOp.Eq (Value.ref _) (Value.ref _)) _ _ _); k_dflt (refine' eq_tup ?k1 ?k2 ?k3 ?_; (case k1 => k_extra "GET"); (case k2 => k_extra "GET"); (case k3 => k_units)))))
  (k_with "ite" => (first | (refine ite_pos ?c ?_; (case c => ((try simp only [decide_eq_true_eq, beq_iff_eq, Bool.not_eq_true', decide_eq_false_iff_not, ne_eq]); first | assumption | omega))) | (refine ite_neg ?c ?_; (case c => ((try simp only [decide_eq_true_eq, beq_iff_eq, Bool.not_eq_true', decide_eq_false_iff_not, ne_eq]); first | assumption | omega)))))
  (k_with "execs cons" => (((with_reducible refine wpAny_execs_cons ?_); (try dsimp only); k_fold)))
  (k_with "STEPS" => (((try k_fold); (repeat' (first | walk1 | (k_unfold; (try dsimp only)) | (dsimp only; walk1))); (all_goals (try dsimp only)))))
  (k_with "LV" => (((try dsimp only [WhileStep2]); refine' LeaveM.mk ?k1 ?k2 ?_; (case k1 => with_reducible assumption); (case k2 => with_reducible assumption); intro _ nK; (try dsimp only [List.nil_append, List.cons_append] at nK); revert nK; intro _; (try dsimp only))))
  (k_with "ROOM" => (first | k_extra "ROOMN" | (simp only [recursionLimit, cLine] at *; omega)))
  (k_with "CTX" => (((case B => with_reducible assumption); (case F => with_reducible assumption); (case X => with_reducible assumption); (case T => with_reducible assumption); (case hk => first | exact rfl | assumption); (case hd => k_extra "ROOM"); (case hu => k_extra "ROOM"); (case N => with_reducible assumption))))
  (k_with "KEEP" => (first | with_reducible assumption | exact DerV.keep (by with_reducible assumption) (Fr.keep (by with_reducible assumption)) | exact Sto.keep (by with_reducible assumption) (Fr.keep (by with_reducible assumption)) | exact Bok.keep (by with_reducible assumption) (Fr.keep (by with_reducible assumption)) | exact TupG.keep (by with_reducible assumption) (Fr.keep (by with_reducible assumption)) | exact ⟨_, by k_extra "GET"⟩ | exact ⟨_, _, _, _, rfl, by k_extra "GET"⟩ | assumption))
  (k_with "AFTER" => (((try dsimp only); (try k_sweep))))
  (k_with "call builtin:len" => ((k_here; (with_reducible show wpAny _ _ (call (Value.builtin "len") [Value.ref _]) _ _ _); k_dflt (refine' len_any ?k1 ?k2 ?_; (case k1 => is_list); (case k2 => first | with_reducible assumption | ((try simp only [List.length_append, List.length_cons, List.length_nil, List.length_set]); omega))))))
  (k_with "call builtin:list.append" => ((k_here; (with_reducible show wpAny _ _ (call (Value.builtin _) [Value.ref _, _]) _ _ _); k_dflt (refine' append_any ?k1 ?k2 ?k3 ?_ ?z; (case k1 => k_asm); (case k2 => k_asm); (case k3 => k_upd); (case z => first | with_reducible assumption | ((try simp only [List.length_append, List.length_cons, List.length_nil, List.length_set]); omega)); k_whole); intro _ _ _; (try k_sweep))))
  (k_with "setItem ref int" => ((k_here; (with_reducible show wpAny _ _ (setItem (Value.ref _) (Value.int _ _) _) _ _ _); k_dflt (refine' set_any ?k1 ?k2 ?k3 ?k4 ?k5 ?k6 ?_; (case k1 => k_asm); (case k2 => k_asm); (case k3 => k_upd); (case k4 => k_extra "OM"); (case k5 => first | with_reducible assumption | ((try simp only [List.length_append, List.length_cons, List.length_nil, List.length_set]); omega)); (case k6 => k_extra "OM"); k_whole); intro _ _ _; (try k_sweep))))
  (k_with "CTX2" => (((case B => with_reducible assumption); (case F => with_reducible assumption); (case X => with_reducible assumption); (case T => with_reducible assumption); (case hk => first | exact rfl | assumption); (case hd => k_extra "ROOM"); (case hu => k_extra "ROOM"))))
  (k_with "SEP" => (((repeat' (first | assumption | exact sep_nil | refine sep_app ?_ ?_ | refine sep_cons ?_ ?_)); (all_goals ((repeat' (first | exact nmNil | refine nmCons ?_ ?_)); all_goals first | assumption | k_extra "NEC" | exact Ne.symm (by assumption) | exact News.ne (by with_reducible assumption) (by k_mem) (by k_mem) (ne_typ rfl))))))
  (k_with "SPLIT1" => (first | (refine' News.at0 ?n; (case n => with_reducible assumption)) | (refine' News.at1 ?n; (case n => with_reducible assumption)) | (refine' News.at2 ?n; (case n => with_reducible assumption)) | (refine' News.at3 ?n; (case n => with_reducible assumption)) | (refine' News.at4 ?n; (case n => with_reducible assumption)) | (refine' News.at5 ?n; (case n => with_reducible assumption)) | (refine' News.at6 ?n; (case n => with_reducible assumption))))
  (k_with "pyIter ref" => (refine stopHere ?_))
  (k_with "SEPI" => (((repeat' (first | assumption | exact sep_nil | refine sep_app ?_ ?_ | refine sep_cons ?_ ?_)); (all_goals ((try dsimp only); first | assumption | k_extra "NEC" | exact Ne.symm (by assumption))))))
  (k_with "SUBT" => (first | exact sub_refl | (refine sub_cons ?_; k_extra "SUBT") | (refine sub_right ?_; k_extra "SUBT") | (refine sub_left ?_; k_extra "SUBT")))
  (k_with "MEM" => (first | exact memH | (with_reducible refine List.mem_append_right _ ?_; k_extra "MEM") | (with_reducible refine List.mem_append_left _ ?_; k_extra "MEM") | (with_reducible refine memT ?_; k_extra "MEM")))
  (k_with "SUBT2" => (first | exact sub_refl | (with_reducible refine sub_right ?_; k_extra "SUBT2") | (with_reducible refine sub_left ?_; k_extra "SUBT2") | (with_reducible refine sub_cons ?_; k_extra "SUBT2")))
  (k_with "SUBM" => (((repeat' (first | exact sep_nil | refine sep_app ?_ ?_ | refine sep_cons ?_ ?_)); (all_goals first | k_extra "MEM" | k_extra "SUBT2"))))
  (k_with "SUB" => (((repeat' (first | exact sep_nil | refine sep_app ?_ ?_ | refine sep_cons ?_ ?_)); (all_goals first | k_mem | k_extra "MEM" | k_extra "SUBT2" | (simp only [List.mem_append, List.mem_cons, List.not_mem_nil, true_or, or_true, or_false, false_or]; done) | (intro _ hx9; simp only [hx9, List.mem_append, List.mem_cons, List.not_mem_nil, true_or, or_true, or_false, false_or]; done) | k_extra "SUBT"))))
  (k_with "exec For Name Name cons nil" => ((k_here; (with_unfolding_all refine' For_invVF ?kF ?k1 ?k2 ?_; (case kF => assumption); (case k1 => exact rfl); (case k2 => exact rfl); k_whole))))
  (k_with "exec For Name Call cons nil" => ((k_here; (with_unfolding_all refine' For_invVF ?kF ?k1 ?k2 ?_; (case kF => assumption); (case k1 => exact rfl); (case k2 => exact rfl); k_whole))))
  (k_with "exec For Name Subscript cons nil" => ((k_here; (with_unfolding_all refine' For_invVF ?kF ?k1 ?k2 ?_; (case kF => assumption); (case k1 => exact rfl); (case k2 => exact rfl); k_whole))))
  (k_with "exec For Name Attribute cons nil" => ((k_here; (with_unfolding_all refine' For_invVF ?kF ?k1 ?k2 ?_; (case kF => assumption); (case k1 => exact rfl); (case k2 => exact rfl); k_whole))))
  (k_with "KEEP" => (first | with_reducible assumption | exact DerV.keep (by with_reducible assumption) (Fr.keep (by with_reducible assumption)) | exact Sto.keep (by with_reducible assumption) (Fr.keep (by with_reducible assumption)) | exact Bok.keep (by with_reducible assumption) (Fr.keep (by with_reducible assumption)) | exact TupG.keep (by with_reducible assumption) (Fr.keep (by with_reducible assumption)) | exact ⟨_, by k_extra "GET"⟩ | exact ⟨_, _, _, _, rfl, by k_extra "GET"⟩ | assumption))
  (k_with "call ref" => ((k_here; (with_reducible show wpAny _ _ (call (Value.ref 154) _) _ _ _); refine stopHere ?_)))
  (k_with "call ref" => ((k_here; (with_reducible show wpAny _ _ (call (Value.ref 381) _) _ _ _); refine stopHere ?_)))
  (k_with "call ref" => ((k_here; (with_reducible show wpAny _ _ (call (Value.ref 411) _) _ _ _); refine stopHere ?_)))
  (k_with "call ref" => ((k_here; (with_reducible show wpAny _ _ (call (Value.ref 418) _) _ _ _); refine stopHere ?_)))
  (k_with "call ref" => ((k_here; (with_reducible show wpAny _ _ (call (Value.ref 109) _) _ _ _); refine stopHere ?_)))
  (k_with "call ref" => ((k_here; (with_reducible show wpAny _ _ (call (Value.ref 342) _) _ _ _); refine stopHere ?_)))
  (k_with "call ref" => ((k_here; (with_reducible show wpAny _ _ (call (Value.ref 209) _) _ _ _); refine stopHere ?_)))
  (k_with "call ref" => ((k_here; (with_reducible show wpAny _ _ (call (Value.ref 244) _) _ _ _); refine stopHere ?_)))
  (k_with "call ref" => ((k_here; (with_reducible show wpAny _ _ (call (Value.ref 279) _) _ _ _); refine stopHere ?_)))
  (k_with "call ref" => ((k_here; (with_reducible show wpAny _ _ (call (Value.ref 230) _) _ _ _); refine stopHere ?_)))
  (k_with "call ref" => ((k_here; (with_reducible show wpAny _ _ (call (Value.ref 397) _) _ _ _); refine stopHere ?_)))
  (k_with "call ref" => ((k_here; (with_reducible show wpAny _ _ (call (Value.ref 404) _) _ _ _); refine stopHere ?_)))
  (k_with "SEPL" => (((repeat' (first | assumption | exact sep_nil | refine sep_app ?_ ?_ | refine sep_cons ?_ ?_)); (all_goals first | exact sepOne (by assumption) | exact sepTwo (by assumption) (by assumption) | exact sepFour (by assumption) (by assumption) (by assumption) (by assumption) | ((repeat' (first | exact nmNil | refine nmCons ?_ ?_)); all_goals first | assumption | k_extra "NEC" | exact Ne.symm (by assumption) | exact News.ne (by with_reducible assumption) (by k_mem) (by k_mem) (ne_typ rfl))))))
  (k_with "CompSrcT" => (refine stopHere ?_))
  (k_with "CompSrc" => (refine stopHere ?_))
  (k_with "execs cons" => (((with_reducible show wpAny _ _ (execs (Stmt.Assign [Expr.Name (Str.ofString "heap") _] _ _ :: _) _) _ _ _); refine stopHere ?_)))
  (k_with "subscriptTail" => ((k_here; (with_reducible show wpAny _ _ (subscriptTail _ _ (Value.ref _) (Value.int (List.getD _ _ _) _)) _ _ _); rw [getD_one]; k_dflt (refine' item_list ?k1 ?k2 ?k3 ?k4 ?_; (case k1 => is_list); (case k4 => first | assumption | exact rfl); (case k2 => k_extra "OM"); (case k3 => k_extra "OM")))))
  (k_with "subscriptTail" => ((k_here; (with_reducible show wpAny _ _ (subscriptTail _ _ (Value.ref _) (Value.int _ _)) _ _ _); k_dflt (refine' item_list ?k1 ?k2 ?k3 ?k4 ?_; (case k1 => is_list); (case k4 => first | assumption | exact rfl); (case k2 => k_extra "OM"); (case k3 => k_extra "OM")))))
  (k_with "exec While Compare" => (refine stopHere ?_))
  (k_with "exec While" => (refine stopHere ?_))
  trivial
theorem law_rest8 {U H S TX AN FL FN CL SL KL D st dst bk dbk Tr : Addr} {ws : List Value} {wi : List Int} {kk2 uu kk : Nat → Tok} {o1c o2c : Obj} {n : Nat} {news : List (Addr × Obj)}
    (hws : ws.length ≤ 50) (hI : IntsAre ws wi) (hn6 : Hid (n ≤ 6)) (hn2 : 2 ≤ n) (q1 : D < U) (q2 : U < dbk) (q3 : dbk < bk) (q4 : bk < TX) (q5 : TX < AN) (q6 : AN < FL) (q7 : FL < FN) (q8 : FN < dst) (q9 : dst < st) (q10 : st < H) (q11 : H < S) (q12 : S < CL) (q13 : CL < SL) (q14 : SL < KL) (q15 : L + 1 < D) (q16 : L + 1 + 1 < D)
    (hc1 : o1c.data = .cell (some (.ref CL))) (hc2 : o2c.data = .cell (some (.ref KL)))
    (hJ : JE prog w H S FL CL SL KL st dst bk dbk [(D, listOf ws.toArray 0), (st, instObj 381 dst), (dst, dictOf (stE w.params bk H S Tr kk2 uu) 7), (bk, instObj 154 dbk), (dbk, dictOf (bkE w.params TX AN FL FN kk) 4), (L + 1, o1c), (L + 1 + 1, o2c)] n m news) (F₁ : Fr h₀ L h₁ m) (N₁ : News h₀ L h₁ news)
    (ret : ∀ h' tk m', Fr h₀ L h' m' → Q (.ret (.bool true)) { s₁ with heap := h', toks := tk }) :
    wpAny (model prog w) (ktrTop dp un gd (Str.ofString "law") lawScope L a ccd (cellsFrom (L + 1) lawScope.names []) outer) (execs (lawRest 8) (envX (Str.ofString "law") lawScope L a ccd (cellsFrom (L + 1) lawScope.names []))) Q (fun _ _ => False) { s₁ with heap := h₁, toks := tk₁ } := by
  generalize hg1 : lawRest 8 = bd
  generalize hg2 : lawScope = sc
  conv at hg1 => lhs; whnf
  conv at hg2 => lhs; whnf
  subst hg1
  subst hg2
  obtain ⟨hs, nH, ss, nS, fs, n2, oF, cv, nC, sv, nSL, kv, nK, nt, pt, Fx, Ha, Sa, ns, ag, rfl, LS⟩ := hJ
  rw [ag.form] at F₁
  dsimp only [List.cons_append, List.nil_append] at N₁
  have q1' := ltN q1
  have q2' := ltN q2
  have q3' := ltN q3
  have q4' := ltN q4
  have q5' := ltN q5
  have q6' := ltN q6
  have q7' := ltN q7
  have q8' := ltN q8
  have q9' := ltN q9
  have q10' := ltN q10
  have q11' := ltN q11
  have q12' := ltN q12
  have q13' := ltN q13
  have q14' := ltN q14
  have q15' := ltN q15
  have q16' := ltN q16
  have hn6' : n ≤ 6 := hn6
  have lC' := LS.cC.length
  have lK' := LS.kP.length
  have lS4 := LS.sP.length
  rw [List.length_map] at lC' lK' lS4
  have ln4 := LS.ln
  have b1 : cv.length ≤ 100 := len6 lC' ln4 hn6'
  have b2 : kv.length ≤ 100 := len6 lK' ln4 hn6'
  have b4 : sv.length ≤ 100 := len6 lS4 ln4 hn6'
  k_extra "STEPS"
  show LCg.CompSrc _ _ _ _ _ _ _ _ _ _ _ _ _ _
  rename IsRange _ _ _ _ _ _ _ _ => hr9
  rename Fr _ _ _ _ => F9
  rename News _ _ _ _ => N9
  refine LCg.CompSrc.range rfl F9 N9 hr9 (range0_small (by k_extra "OM")) range0_size (by rw [sizeLine_eq]; omega) ?_
  intro g'
  refine comp_rest (R := fun i y => ∃ t, y = .int ((2 ^ i : Nat) : Int) t) trivial ?_ ?_
  · intro i v I9 oI9 C9 oC9 D9 m9 ys h9 tk9 E9 hi hv hC hx F9' N9' off ne
    obtain ⟨t9, rfl⟩ := hv
    rw [Int.zero_add] at hx
    clear F9 N9 hr9
    k_extra "STEPS"
    all_goals first | assumption | exact ⟨_, rfl⟩
  · intro ys hyl hy
    intro D9 h9 tk9 F9' N9' off9
    clear F9 N9 hr9
    change News h₀ L h9 ((D9, listOf ys.toArray ys.length) :: _) at N9'
    have oD9 := off1_mem off9
    clear off9
    have iM := ints_of (f := fun i => 2 ^ i) hy
    rw [hyl] at iM
    k_extra "STEPS"
    rename IsRange _ _ _ _ _ _ _ _ => hr9
    rename Fr _ _ _ _ => F9
    rename News _ _ _ _ => N9
    obtain ⟨rep, root, wf⟩ := LS.wf
    have cl0 : Clo ns ((List.range cv.length).map fun i => 2 ^ i) 0 0 0 := Clo.start (by rw [List.length_map, List.length_range]; omega) fun i m h => pow_at h
    refine for_range (n := cv.length) (fun t => JR ns [(Str.ofString "met", .ref D9), (Str.ofString "store", .ref st), (Str.ofString "steps", .ref SL)] D9 (((H, listOf hs.toArray nH) :: (S, listOf ss.toArray nS) :: (FL, listOf fs.toArray n2) :: (CL, listOf cv.toArray nC) :: (SL, listOf sv.toArray nSL) :: (KL, listOf kv.toArray nK) :: (D, listOf ws.toArray 0) :: (st, instObj 381 dst) :: (dst, dictOf (stE w.params bk H S Tr kk2 uu) 7) :: (bk, instObj 154 dbk) :: (dbk, dictOf (bkE w.params TX AN FL FN kk) 4) :: (L + 1, o1c) :: (L + 1 + 1, o2c) :: (pt ++ nt))) t 0 0) rfl rfl hr9 (range0_small (by k_extra "OM")) range0_size F9 N9 ⟨ys, ys.length, _, .cons rfl (.cons rfl (.cons rfl .nil)), rfl, iM, cl0⟩ ?_ ?_
    · intro t tt m₂ news₂ h₂ tk₂ I1 oI1 ht hR9 hne cI1 F₂ N₂; obtain ⟨mv, nM, Ms, ag2, rfl, iM, cl⟩ := hR9
      rw [ag2.form] at F₂
      exact wpAny_mono (law_round (MT := D9) (tt := tt) B X T hd hu hn6 LS hc1 hc2 wf.lt oD9 iM cl cI1 hne F₂ N₂) (fun _ _ h => h) (fun _ _ e => e.elim)
    · intro m₂ news₂ h₂ tk₂ hR4 F₂ N₂; obtain ⟨mv, nM, Ms, ag2, rfl, iM, cl⟩ := hR4
      rw [show cv.length = ns.length from lC'] at cl
      k_extra "STEPS"
      show wpAny _ _ _ _ _ _
      refine law_rest10 (MT := D9) (kk := kk) (uu := uu) (kk2 := kk2) (Tr := Tr) B X T hd hu hn6 LS hc1 hc2 oD9 iM cl (wf.lt) q10 q11 q12 q13 q14 (Mine.Fr.form F₂ ag2) N₂ ret
end
end Part36
section Part37
section
variable {prog : Program} {w : World} {p : Program} {loose : List Str} {mean : ExcName → Option Value} {mg mb : Str → Option Value} {dp un : Nat} {gd : Option (List Code)} {a : Addr} {ccd : Value} {outer : List Env} {A₀ : Around} {base h₀ : Heap} {L : Addr} {m : Str → Option Value} {s₁ : Shared} {h₁ : Heap} {tk₁ : Nat} {Q : Flow → Shared → Prop}
  (B : Below A₀ base outer h₀) (X : (Mine.hd.heap_1 w.params).In h₀) (T : Top p loose mean mg mb h₀) (hd : dp + 60 < recursionLimit) (hu : un + 1200 < cLine)
include B X T hd hu
theorem ln47 : True := by
  k_with_none
  (k_with "LIT0" => (first | with_reducible assumption | ((first | (with_reducible show @LE.le Nat _ (OfNat.ofNat _) (OfNat.ofNat _)) | (with_reducible show @LT.lt Nat _ (OfNat.ofNat _) (OfNat.ofNat _))); exact Nat.le_of_ble_eq_true rfl)))
  (k_with "LIT1" => (first | with_reducible assumption | (with_reducible refine' Nat.lt_of_lt_of_le ?ha ?hb; (case ha => with_reducible assumption); (case hb => k_extra "LIT0")) | (with_reducible refine' Nat.lt_of_le_of_lt ?ha ?hb; (case ha => with_reducible assumption); (case hb => k_extra "LIT0")) | (with_reducible refine' Nat.le_trans ?ha ?hb; (case ha => with_reducible assumption); (case hb => k_extra "LIT0")) | (with_reducible refine' Nat.le_of_lt (Nat.lt_of_lt_of_le ?ha ?hb); (case ha => with_reducible assumption); (case hb => k_extra "LIT0")) | (with_reducible refine' Nat.lt_of_le_of_lt (Nat.le_of_eq ?ha) ?hb; (case ha => with_reducible assumption); (case hb => k_extra "LIT0")) | (with_reducible refine' Nat.le_trans (Nat.le_of_eq ?ha) ?hb; (case ha => with_reducible assumption); (case hb => k_extra "LIT0"))))
  (k_with "LIT2" => (first | with_reducible assumption | (with_reducible refine' Nat.lt_of_lt_of_le ?ha ?hb; (case ha => with_reducible assumption); (case hb => k_extra "LIT1")) | (with_reducible refine' Nat.lt_of_le_of_lt ?ha ?hb; (case ha => with_reducible assumption); (case hb => k_extra "LIT1")) | (with_reducible refine' Nat.le_trans ?ha ?hb; (case ha => with_reducible assumption); (case hb => k_extra "LIT1")) | (with_reducible refine' Nat.le_of_lt (Nat.lt_of_lt_of_le ?ha ?hb); (case ha => with_reducible assumption); (case hb => k_extra "LIT1")) | (with_reducible refine' Nat.lt_of_le_of_lt (Nat.le_of_eq ?ha) ?hb; (case ha => with_reducible assumption); (case hb => k_extra "LIT1")) | (with_reducible refine' Nat.le_trans (Nat.le_of_eq ?ha) ?hb; (case ha => with_reducible assumption); (case hb => k_extra "LIT1"))))
  (k_with "OM" => (first | with_reducible assumption | with_reducible exact Int.natCast_nonneg _ | with_reducible exact Int.ofNat_lt.mpr (by with_reducible assumption) | with_reducible exact i63 (by k_extra "LIT2") | k_extra "LIT2" | omega))
  (k_with "LTC" => (first | with_reducible assumption | (refine' Nat.lt_trans ?ha ?hb; (case ha => with_reducible assumption); (case hb => k_extra "LTC"))))
  (k_with "NEC" => ((refine neN ?_; (try dsimp only); first | (refine' Nat.ne_of_lt ?hc; (case hc => k_extra "LTC")) | (refine' Nat.ne_of_gt ?hc; (case hc => k_extra "LTC")) | omega)))
  (k_with "ROOMN" => (first | (refine' roomN ?ha (Nat.add_assoc _ _ _) ?hb; (case ha => with_reducible assumption); (case hb => exact rfl)) | (refine' roomN ?ha rfl ?hb; (case ha => with_reducible assumption); (case hb => exact rfl)) | (refine' roomN ?ha ((Nat.add_assoc _ _ _).trans (Nat.add_assoc _ _ _)) ?hb; (case ha => with_reducible assumption); (case hb => exact rfl)) | exact Nat.lt_of_le_of_lt (Nat.le_add_right _ _) (by with_reducible assumption)))
  (k_with "MKUNITS" => (first | k_extra "ROOMN" | ktr_units))
  (k_with "MKNE" => (first | k_extra "NEC" | ((try dsimp only); assumption) | ((try dsimp only); exact Ne.symm (by assumption)) | ((try dsimp only); exact News.ne (by with_reducible assumption) (by k_mem) (by k_mem) (ne_typ rfl))))
  (k_with "MKALL" => (first | assumption | exact List.forall_mem_nil _ | (refine' List.forall_mem_cons.mpr ⟨?a, ?b⟩; (case a => k_ne); (case b => k_all))))
  (k_with "GET" => (first | exact Fr.keep (by with_reducible assumption) _ _ (by with_reducible assumption) | exact News.get (by with_reducible assumption) (by k_mem)))
  (k_with "MKINST" => (exact instG (by k_extra "GET") (by k_extra "GET")))
  (k_with "MISLIST" => (exact isListG (by k_extra "GET")))
  (k_with "ENTER" => (((case ks => assumption); (case k1 => assumption); (case k2 => assumption); (case k3 => assumption); (case k4 => assumption); (case kr => assumption); (case k5 => assumption); (case kK => assumption); (case k8 => first | k_extra "ROOMN" | ktr_room); (case k6 => k_is); (case k7 => k_is); (case k9 => exact BindsTo.of_eq rfl); (case kB => exact locs rfl); (case c2 => exact rfl); (case c3 => exact rfl); (case c4 => exact rfl); (case c5 => decide))))
  (k_with "subscriptTail" => ((k_here; (with_reducible show wpAny _ _ (subscriptTail _ _ (Value.ref _) (Value.int _ _)) _ _ _); k_dflt (refine' item_list ?k1 ?k2 ?k3 ?k4 ?_; (case k1 => is_list); (case k4 => assumption); (case k2 => k_extra "OM"); (case k3 => k_extra "OM")))))
  (k_with "subscriptTail" => ((k_here; (with_reducible show wpAny _ _ (subscriptTail _ _ (Value.ref _) (Value.int 1 _)) _ _ _); k_dflt (refine' item_tup1 ?k1 ?_; (case k1 => k_extra "GET")))))
  (k_with "subscriptTail" => ((k_here; (with_reducible show wpAny _ _ (subscriptTail _ _ (Value.ref _) (Value.int 0 _)) _ _ _); k_dflt (refine' item_tup0 ?k1 ?_; (case k1 => k_extra "GET")))))
  (k_with "compareOp Eq ref ref" => ((k_here; (with_reducible show wpAny _ _ (compareOp CmpOp.Eq (Value.ref _) (Value.ref _)) _ _ _); k_dflt (refine' eq_tup ?k1 ?k2 ?k3 ?_; (case k1 => k_extra "GET"); (case k2 => k_extra "GET"); (case k3 => k_units)))))
  (k_with "ite" => (first | (refine ite_pos ?c ?_; (case c => ((try simp only [decide_eq_true_eq, beq_iff_eq, Bool.not_eq_true', decide_eq_false_iff_not, ne_eq]); first | assumption | omega))) | (refine ite_neg ?c ?_; (case c => ((try simp only [decide_eq_true_eq, beq_iff_eq, Bool.not_eq_true', decide_eq_false_iff_not, ne_eq]); first | assumption | omega)))))
  (k_with "execs cons" => (((with_reducible refine wpAny_execs_cons ?_); (try dsimp only); k_fold)))
  (k_with "STEPS" => (((try k_fold); (repeat' (first | walk1 | (k_unfold; (try dsimp only)) | (dsimp only; walk1))); (all_goals (try dsimp only)))))
  (k_with "LV" => (((try dsimp only [WhileStep2]); refine' LeaveM.mk ?k1 ?k2 ?_; (case k1 => with_reducible assumption); (case k2 => with_reducible assumption); intro _ nK; (try dsimp only [List.nil_append, List.cons_append] at nK); revert nK; intro _; (try dsimp only))))
  (k_with "ROOM" => (first | k_extra "ROOMN" | (simp only [recursionLimit, cLine] at *; omega)))
  (k_with "CTX" => (((case B => with_reducible assumption); (case F => with_reducible assumption); (case X => with_reducible assumption); (case T => with_reducible assumption); (case hk => first | exact rfl | assumption); (case hd => k_extra "ROOM"); (case hu => k_extra "ROOM"); (case N => with_reducible assumption))))
  (k_with "KEEP" => (first | with_reducible assumption | exact DerV.keep (by with_reducible assumption) (Fr.keep (by with_reducible assumption)) | exact Sto.keep (by with_reducible assumption) (Fr.keep (by with_reducible assumption)) | exact Bok.keep (by with_reducible assumption) (Fr.keep (by with_reducible assumption)) | exact TupG.keep (by with_reducible assumption) (Fr.keep (by with_reducible assumption)) | exact ⟨_, by k_extra "GET"⟩ | exact ⟨_, _, _, _, rfl, by k_extra "GET"⟩ | assumption))
  (k_with "AFTER" => (((try dsimp only); (try k_sweep))))
  (k_with "call builtin:len" => ((k_here; (with_reducible show wpAny _ _ (call (Value.builtin "len") [Value.ref _]) _ _ _); k_dflt (refine' len_any ?k1 ?k2 ?_; (case k1 => is_list); (case k2 => first | with_reducible assumption | ((try simp only [List.length_append, List.length_cons, List.length_nil, List.length_set]); omega))))))
  (k_with "call builtin:list.append" => ((k_here; (with_reducible show wpAny _ _ (call (Value.builtin _) [Value.ref _, _]) _ _ _); k_dflt (refine' append_any ?k1 ?k2 ?k3 ?_ ?z; (case k1 => k_asm); (case k2 => k_asm); (case k3 => k_upd); (case z => first | with_reducible assumption | ((try simp only [List.length_append, List.length_cons, List.length_nil, List.length_set]); omega)); k_whole); intro _ _ _; (try k_sweep))))
  (k_with "setItem ref int" => ((k_here; (with_reducible show wpAny _ _ (setItem (Value.ref _) (Value.int _ _) _) _ _ _); k_dflt (refine' set_any ?k1 ?k2 ?k3 ?k4 ?k5 ?k6 ?_; (case k1 => k_asm); (case k2 => k_asm); (case k3 => k_upd); (case k4 => k_extra "OM"); (case k5 => first | with_reducible assumption | ((try simp only [List.length_append, List.length_cons, List.length_nil, List.length_set]); omega)); (case k6 => k_extra "OM"); k_whole); intro _ _ _; (try k_sweep))))
  (k_with "CTX2" => (((case B => with_reducible assumption); (case F => with_reducible assumption); (case X => with_reducible assumption); (case T => with_reducible assumption); (case hk => first | exact rfl | assumption); (case hd => k_extra "ROOM"); (case hu => k_extra "ROOM"))))
  (k_with "SEP" => (((repeat' (first | assumption | exact sep_nil | refine sep_app ?_ ?_ | refine sep_cons ?_ ?_)); (all_goals ((repeat' (first | exact nmNil | refine nmCons ?_ ?_)); all_goals first | assumption | k_extra "NEC" | exact Ne.symm (by assumption) | exact News.ne (by with_reducible assumption) (by k_mem) (by k_mem) (ne_typ rfl))))))
  (k_with "SPLIT1" => (first | (refine' News.at0 ?n; (case n => with_reducible assumption)) | (refine' News.at1 ?n; (case n => with_reducible assumption)) | (refine' News.at2 ?n; (case n => with_reducible assumption)) | (refine' News.at3 ?n; (case n => with_reducible assumption)) | (refine' News.at4 ?n; (case n => with_reducible assumption)) | (refine' News.at5 ?n; (case n => with_reducible assumption)) | (refine' News.at6 ?n; (case n => with_reducible assumption))))
  (k_with "pyIter ref" => (refine stopHere ?_))
  (k_with "SEPI" => (((repeat' (first | assumption | exact sep_nil | refine sep_app ?_ ?_ | refine sep_cons ?_ ?_)); (all_goals ((try dsimp only); first | assumption | k_extra "NEC" | exact Ne.symm (by assumption))))))
  (k_with "SUBT" => (first | exact sub_refl | (refine sub_cons ?_; k_extra "SUBT") | (refine sub_right ?_; k_extra "SUBT") | (refine sub_left ?_; k_extra "SUBT")))
  (k_with "MEM" => (first | exact memH | (with_reducible refine List.mem_append_right _ ?_; k_extra "MEM") | (with_reducible refine List.mem_append_left _ ?_; k_extra "MEM") | (with_reducible refine memT ?_; k_extra "MEM")))
  (k_with "SUBT2" => (first | exact sub_refl | (with_reducible refine sub_right ?_; k_extra "SUBT2") | (with_reducible refine sub_left ?_; k_extra "SUBT2") | (with_reducible refine sub_cons ?_; k_extra "SUBT2")))
  (k_with "SUBM" => (((repeat' (first | exact sep_nil | refine sep_app ?_ ?_ | refine sep_cons ?_ ?_)); (all_goals first | k_extra "MEM" | k_extra "SUBT2"))))
  (k_with "SUB" => (((repeat' (first | exact sep_nil | refine sep_app ?_ ?_ | refine sep_cons ?_ ?_)); (all_goals first | k_mem | k_extra "MEM" | k_extra "SUBT2" | (simp only [List.mem_append, List.mem_cons, List.not_mem_nil, true_or, or_true, or_false, false_or]; done) | (intro _ hx9; simp only [hx9, List.mem_append, List.mem_cons, List.not_mem_nil, true_or, or_true, or_false, false_or]; done) | k_extra "SUBT"))))
  (k_with "exec For Name Name cons nil" => ((k_here; (with_unfolding_all refine' For_invVF ?kF ?k1 ?k2 ?_; (case kF => assumption); (case k1 => exact rfl); (case k2 => exact rfl); k_whole))))
  (k_with "exec For Name Call cons nil" => ((k_here; (with_unfolding_all refine' For_invVF ?kF ?k1 ?k2 ?_; (case kF => assumption); (case k1 => exact rfl); (case k2 => exact rfl); k_whole))))
  (k_with "exec For Name Subscript cons nil" => ((k_here; (with_unfolding_all refine' For_invVF ?kF ?k1 ?k2 ?_; (case kF => assumption); (case k1 => exact rfl); (case k2 => exact rfl); k_whole))))
  (k_with "exec For Name Attribute cons nil" => ((k_here; (with_unfolding_all refine' For_invVF ?kF ?k1 ?k2 ?_; (case kF => assumption); (case k1 => exact rfl); (case k2 => exact rfl); k_whole))))
  (k_with "KEEP" => (first | with_reducible assumption | exact DerV.keep (by with_reducible assumption) (Fr.keep (by with_reducible assumption)) | exact Sto.keep (by with_reducible assumption) (Fr.keep (by with_reducible assumption)) | exact Bok.keep (by with_reducible assumption) (Fr.keep (by with_reducible assumption)) | exact TupG.keep (by with_reducible assumption) (Fr.keep (by with_reducible assumption)) | exact ⟨_, by k_extra "GET"⟩ | exact ⟨_, _, _, _, rfl, by k_extra "GET"⟩ | assumption))
  (k_with "call ref" => ((k_here; (with_reducible show wpAny _ _ (call (Value.ref 154) _) _ _ _); refine stopHere ?_)))
  (k_with "call ref" => ((k_here; (with_reducible show wpAny _ _ (call (Value.ref 381) _) _ _ _); refine stopHere ?_)))
  (k_with "call ref" => ((k_here; (with_reducible show wpAny _ _ (call (Value.ref 411) _) _ _ _); refine stopHere ?_)))
  (k_with "call ref" => ((k_here; (with_reducible show wpAny _ _ (call (Value.ref 418) _) _ _ _); refine stopHere ?_)))
  (k_with "call ref" => ((k_here; (with_reducible show wpAny _ _ (call (Value.ref 109) _) _ _ _); refine stopHere ?_)))
  (k_with "call ref" => ((k_here; (with_reducible show wpAny _ _ (call (Value.ref 342) _) _ _ _); refine stopHere ?_)))
  (k_with "call ref" => ((k_here; (with_reducible show wpAny _ _ (call (Value.ref 209) _) _ _ _); refine stopHere ?_)))
  (k_with "call ref" => ((k_here; (with_reducible show wpAny _ _ (call (Value.ref 244) _) _ _ _); refine stopHere ?_)))
  (k_with "call ref" => ((k_here; (with_reducible show wpAny _ _ (call (Value.ref 279) _) _ _ _); refine stopHere ?_)))
  (k_with "call ref" => ((k_here; (with_reducible show wpAny _ _ (call (Value.ref 230) _) _ _ _); refine stopHere ?_)))
  (k_with "call ref" => ((k_here; (with_reducible show wpAny _ _ (call (Value.ref 397) _) _ _ _); refine stopHere ?_)))
  (k_with "call ref" => ((k_here; (with_reducible show wpAny _ _ (call (Value.ref 404) _) _ _ _); refine stopHere ?_)))
  (k_with "SEPL" => (((repeat' (first | assumption | exact sep_nil | refine sep_app ?_ ?_ | refine sep_cons ?_ ?_)); (all_goals first | exact sepOne (by assumption) | exact sepTwo (by assumption) (by assumption) | exact sepFour (by assumption) (by assumption) (by assumption) (by assumption) | ((repeat' (first | exact nmNil | refine nmCons ?_ ?_)); all_goals first | assumption | k_extra "NEC" | exact Ne.symm (by assumption) | exact News.ne (by with_reducible assumption) (by k_mem) (by k_mem) (ne_typ rfl))))))
  (k_with "CompSrcT" => (refine stopHere ?_))
  (k_with "CompSrc" => (refine stopHere ?_))
  (k_with "execs cons" => (((with_reducible show wpAny _ _ (execs (Stmt.Assign [Expr.Name (Str.ofString "met") _] _ _ :: _) _) _ _ _); refine stopHere ?_)))
  (k_with "CompSrcT" => (refine stopHere ?_))
  (k_with "CompSrc" => (refine stopHere ?_))
  (k_with "execs cons" => (((with_reducible show wpAny _ _ (execs (Stmt.Assign [Expr.Name (Str.ofString "last") _] _ _ :: _) _) _ _ _); refine stopHere ?_)))
  (k_with "subscriptTail" => ((k_here; (with_reducible show wpAny _ _ (subscriptTail _ _ (Value.ref _) (Value.int (List.getD _ _ _) _)) _ _ _); rw [getD_one]; k_dflt (refine' item_list ?k1 ?k2 ?k3 ?k4 ?_; (case k1 => is_list); (case k4 => first | assumption | exact rfl); (case k2 => k_extra "OM"); (case k3 => k_extra "OM")))))
  (k_with "subscriptTail" => ((k_here; (with_reducible show wpAny _ _ (subscriptTail _ _ (Value.ref _) (Value.int _ _)) _ _ _); k_dflt (refine' item_list ?k1 ?k2 ?k3 ?k4 ?_; (case k1 => is_list); (case k4 => first | assumption | exact rfl); (case k2 => k_extra "OM"); (case k3 => k_extra "OM")))))
  (k_with "exec While Compare" => (refine stopHere ?_))
  (k_with "exec While" => (refine stopHere ?_))
  trivial
theorem law_rest7 {U H S TX AN FL FN CL SL KL D st dst bk dbk Tr : Addr} {ws : List Value} {wi : List Int} {kk2 uu kk : Nat → Tok} {o1c o2c : Obj} {n : Nat} {news : List (Addr × Obj)}
    (hws : ws.length ≤ 50) (hI : IntsAre ws wi) (hn6 : Hid (n ≤ 6)) (hn2 : 2 ≤ n) (q1 : D < U) (q2 : U < dbk) (q3 : dbk < bk) (q4 : bk < TX) (q5 : TX < AN) (q6 : AN < FL) (q7 : FL < FN) (q8 : FN < dst) (q9 : dst < st) (q10 : st < H) (q11 : H < S) (q12 : S < CL) (q13 : CL < SL) (q14 : SL < KL) (q15 : L + 1 < D) (q16 : L + 1 + 1 < D)
    (hc1 : o1c.data = .cell (some (.ref CL))) (hc2 : o2c.data = .cell (some (.ref KL)))
    (hJ : JL prog w ws.length U H S TX AN FL FN CL SL KL D st dst bk dbk [(D, listOf ws.toArray 0), (st, instObj 381 dst), (dst, dictOf (stE w.params bk H S Tr kk2 uu) 7), (bk, instObj 154 dbk), (dbk, dictOf (bkE w.params TX AN FL FN kk) 4), (L + 1, o1c), (L + 1 + 1, o2c)] n m news) (F₁ : Fr h₀ L h₁ m) (N₁ : News h₀ L h₁ news)
    (ret : ∀ h' tk m', Fr h₀ L h' m' → Q (.ret (.bool true)) { s₁ with heap := h', toks := tk }) :
    wpAny (model prog w) (ktrTop dp un gd (Str.ofString "law") lawScope L a ccd (cellsFrom (L + 1) lawScope.names []) outer) (execs (lawRest 7) (envX (Str.ofString "law") lawScope L a ccd (cellsFrom (L + 1) lawScope.names []))) Q (fun _ _ => False) { s₁ with heap := h₁, toks := tk₁ } := by
  generalize hg1 : lawRest 7 = bd
  generalize hg2 : lawScope = sc
  conv at hg1 => lhs; whnf
  conv at hg2 => lhs; whnf
  subst hg1
  subst hg2
  obtain ⟨x0, xi, t0, t1, nU, hs, nH, ss, nS, ts, n1, oA, fs, n2, oF, cv, nC, sv, nSL, kv, nK, nt, pt, Tx, Fx, Ha, Sa, ns, ag, rfl, LS⟩ := hJ
  rw [ag.form] at F₁
  dsimp only [List.cons_append, List.nil_append] at N₁
  have q1' := ltN q1
  have q2' := ltN q2
  have q3' := ltN q3
  have q4' := ltN q4
  have q5' := ltN q5
  have q6' := ltN q6
  have q7' := ltN q7
  have q8' := ltN q8
  have q9' := ltN q9
  have q10' := ltN q10
  have q11' := ltN q11
  have q12' := ltN q12
  have q13' := ltN q13
  have q14' := ltN q14
  have q15' := ltN q15
  have q16' := ltN q16
  have hn6' : n ≤ 6 := hn6
  have lH := LS.lH
  have lS := LS.lS
  have lH' := LS.cH.length
  have lS' := LS.cS.length
  have pU : ∀ q ∈ pt, q.1 ≠ U := abN (X := U) LS.tp (show @LT.lt Nat _ U KL by first | k_extra "LTC" | omega)
  have fU : ∀ q ∈ nt, q.1 ≠ U := News.neAll N₁ (by k_extra "SUBT") LS.tn (by k_mem) list_ne_tuple
  have lC' := LS.cC.length
  have lK' := LS.kP.length
  rw [List.length_map] at lC' lK'
  have ln4 := LS.ln
  have b1 : cv.length ≤ 100 := len6 lC' ln4 hn6'
  have b2 : kv.length ≤ 100 := len6 lK' ln4 hn6'
  have b5 : hs.length ≤ 100 := len36 lH' lH hn6'
  have b6 : ss.length ≤ 100 := len1 lS' lS hn6'
  have b7 : Ha.length ≤ 100 := len36 rfl lH hn6'
  have b8 : Sa.length ≤ 100 := len1 rfl lS hn6'
  have bkf := LS.bk.lf
  k_extra "STEPS"
  show wpAny _ _ _ _ _ _
  k_dflt (refine' pick_spec (pre := []) ?B ?F ?X ?T ?hk ?hd ?hu ?N ?sep ?hD ?hDU ?hI ?hl ?x0 ?i0 ?i1 ?k0 ?k1 ?_; k_extra "CTX2"; (case N => exact N₁); (case sep => k_extra "SEPL"); (case hD => exact ⟨_, by k_extra "GET"⟩); (case hDU => k_extra "NEC"); (case hI => exact hI); (case hl => k_extra "OM"); (case x0 => exact LS.hx0); (case i0 => exact LS.hxi); (case i1 => exact LS.hxl); (case k0 => decide); (case k1 => decide))
  intro h' tk' v tv x0' xi' t0' t1' nU' v0 v1 hx0 hxi hxl F' N'
  obtain ⟨pn, hpn, hv1⟩ : ∃ pn : Nat, v = (pn : Int) ∧ Hid (pn < 3) := ⟨v.toNat, by omega, by show v.toNat < 3; omega⟩
  subst hpn
  clear v0 v1
  (try dsimp only [List.nil_append, List.cons_append] at N')
  k_extra "AFTER"
  by_cases hp0 : pn = 0
  · subst hp0
    k_extra "STEPS"
    show wpAny _ _ _ _ _ _
    refine law_rest8 (kk := kk) (uu := uu) (kk2 := kk2) (Tr := Tr) B X T hd hu hws hI hn6 hn2 q1 q2 q3 q4 q5 q6 q7 q8 q9 q10 q11 q12 q13 q14 q15 q16 hc1 hc2 ⟨hs, nH, ss, nS, fs, n2, oF, cv, nC, sv, nSL, kv, nK, nt, pt, Fx, Ha, Sa, ns, .cons ?_ (.cons ?_ .nil), rfl, ⟨LS.cH, LS.cS, LS.cC, LS.sP, LS.kP, LS.fP, LS.wf, LS.ln, by omega, by omega, by omega, LS.bk.nn, LS.tn, LS.tp⟩⟩ (by assumption) (News.sub (by assumption) ?_) ret
    case refine_1 => rfl
    case refine_2 => rfl
    case refine_3 => k_extra "SUB"
  · k_extra "STEPS"
    show LCt.CompSrcT _ _ _ _ _ _ _ _ _ _ _ _ _ _ _
    rename IsRange _ _ _ _ _ _ _ _ => hr9
    rename Fr _ _ _ _ => F9
    rename News _ _ _ _ => N9
    obtain ⟨rep, root, wf⟩ := LS.wf
    refine LCt.CompSrcT.range rfl F9 N9 hr9 (range0_small (by k_extra "OM")) range0_size (by rw [sizeLine_eq]; omega) ?_
    intro g'
    refine comp_restT (g := isFree ns) trivial ?_ ?_
    · intro i v I9 oI9 C9 oC9 D9 m9 ys h9 tk9 E9 hi hv hC hx F9' N9' off ne
      refine Classical.byContradiction fun nGo => ?_
      obtain ⟨t9, rfl⟩ := hv
      rw [Int.zero_add] at hx
      obtain ⟨y0, hy0⟩ : ∃ y0, ns[i]? = some y0 := ⟨_, List.getElem?_eq_getElem (by k_extra "OM")⟩
      have hkv : kv[i]? = some kv[i] := List.getElem?_eq_getElem (by k_extra "OM")
      obtain ⟨kd, tkd, e1, e2⟩ := LS.kP.get hkv
      rw [List.getElem?_map, hy0] at e1
      obtain rfl : y0.kd = kd := Option.some.inj e1
      refine nGo ?_; clear nGo
      rw [e2] at hkv
      have hkv' : kv[((i : Nat) : Int).toNat]? = some (.str (kindS y0.kd) tkd) := hkv
      have hkd := wf.kds i y0 hy0
      have hfree : isFree ns i = (y0.kd == 2) := by unfold isFree; rw [hy0]
      clear F9 N9 hr9 e2 hkv
      k_extra "STEPS"
      all_goals first | assumption | (rw [hfree, kindS_free hkd])
    · intro ys hy
      intro D9 h9 tk9 F9' N9' off9
      clear F9 N9 hr9
      change News h₀ L h9 ((D9, listOf ys.toArray ys.length) :: _) at N9'
      have oD9 := off1_mem off9
      have dU : ¬ D9 = U := Ne.symm (oD9 (U, _) (by k_mem))
      have dU' : ¬ U = D9 := oD9 (U, _) (by k_mem)
      clear off9
      have ly1 := hy.length
      have ly2 : ((List.range cv.length).filter (isFree ns)).length ≤ cv.length := Nat.le_trans (List.length_filter_le _ _) (by rw [List.length_range]; exact Nat.le_refl _)
      obtain ⟨xf, hxf, kxf⟩ := LS.fr (by k_extra "OM")
      have ly3 := free_pos (n := cv.length) (by k_extra "OM") hxf kxf
      k_extra "STEPS"
      show wpAny _ _ _ _ _ _
      k_dflt (refine' pick_spec (pre := [_]) ?B ?F ?X ?T ?hk ?hd ?hu ?N ?sep ?hD ?hDU ?hI ?hl ?x0 ?i0 ?i1 ?k0 ?k1 ?_; k_extra "CTX2"; (case N => exact N9'); (case sep => k_extra "SEPL"); (case hD => exact ⟨_, by k_extra "GET"⟩); (case hDU => k_extra "NEC"); (case hI => exact hI); (case hl => k_extra "OM"); (case x0 => assumption); (case i0 => assumption); (case i1 => assumption); (case k0 => k_extra "OM"); (case k1 => k_extra "OM"))
      clear hx0 hxi hxl N9'
      intro h' tk' v tv x0' xi' t0' t1' nU' v0 v1 hx0 hxi hxl F' N'
      refine Classical.byContradiction fun nGo => ?_
      obtain ⟨p2, hp2, hv2⟩ : ∃ p2 : Nat, v = (p2 : Int) ∧ p2 < ys.length := ⟨v.toNat, by omega, by omega⟩
      subst hp2
      clear v0 v1
      obtain ⟨ch, tch, e1, e2⟩ := hy.get (i := p2) (List.getElem?_eq_getElem hv2)
      obtain ⟨hch, xc, hxc, kxc⟩ := free_mem (List.mem_of_getElem? e1)
      refine nGo ?_; clear nGo
      have hys : ys[((p2 : Nat) : Int).toNat]? = some (.int (ch : Int) tch) := by rw [← e2]; exact List.getElem?_eq_getElem hv2
      clear e1 e2
      (try dsimp only [List.nil_append, List.cons_append] at N')
      k_extra "AFTER"
      k_extra "STEPS"
      show wpAny _ _ _ _ _ _
      k_dflt (refine' pick_spec (pre := [_]) ?B ?F ?X ?T ?hk ?hd ?hu ?N ?sep ?hD ?hDU ?hI ?hl ?x0 ?i0 ?i1 ?k0 ?k1 ?_; k_extra "CTX2"; (case N => assumption); (case sep => k_extra "SEPL"); (case hD => exact ⟨_, by k_extra "GET"⟩); (case hDU => k_extra "NEC"); (case hI => exact hI); (case hl => k_extra "OM"); (case x0 => assumption); (case i0 => assumption); (case i1 => assumption); (case k0 => k_extra "OM"); (case k1 => k_extra "OM"))
      clear hx0 hxi hxl
      intro h' tk' v tv x0' xi' t0' t1' nU' v0 v1 hx0 hxi hxl F' N'
      obtain ⟨ot, hp2, hv2⟩ : ∃ ot : Nat, v = (ot : Int) ∧ ot < cv.length := ⟨v.toNat, by omega, by omega⟩
      subst hp2
      clear v0 v1
      (try dsimp only [List.nil_append, List.cons_append] at N')
      k_extra "AFTER"
      k_extra "STEPS"
      show wpAny _ _ _ _ _ _
      refine wpAny_mono (law_bindA (ch := ch) (ot := ot) (kk := kk) (uu := uu) (kk2 := kk2) (Tr := Tr) B X T hd hu hws hI hn6 hn2 q1 q2 q3 q4 q5 q6 q7 q8 q9 q10 q11 q12 q13 q14 q15 q16 hc1 hc2 ⟨x0', xi', t0', t1', nU', hs, nH, ss, nS, ts, n1, oA, fs, n2, oF, cv, nC, sv, nSL, kv, nK, nt, pt, Tx, Fx, Ha, Sa, ns, .cons ?_ (.cons ?_ (.cons ?_ (.cons ?_ .nil))), rfl, { LS with hx0 := hx0, hxi := hxi, hxl := hxl }, ⟨xc, hxc, kxc⟩, by omega⟩ (Mine.Fr.form (by assumption) (.cons rfl (.cons rfl .nil))) (News.sub (by assumption) (fun _ h => .tail _ h)) ?_) (fun _ _ h => h) (fun _ _ e => e.elim)
      case refine_1 => rfl
      case refine_2 => rfl
      case refine_3 => rfl
      case refine_4 => rfl
      intro h' tk m' news' hE F' N'
      k_extra "STEPS"
      show wpAny _ _ _ _ _ _
      exact law_rest8 (kk := kk) (uu := uu) (kk2 := kk2) (Tr := Tr) B X T hd hu hws hI hn6 hn2 q1 q2 q3 q4 q5 q6 q7 q8 q9 q10 q11 q12 q13 q14 q15 q16 hc1 hc2 hE F' N' ret
end
end Part37
section PartLaw
noncomputable def EndP (h₀ : Heap) (L : Addr) (s₁ : Shared) (fl : Flow) (s' : Shared) : Prop := fl = .ret (.bool true) ∧ ∃ h' tk m', s' = { s₁ with heap := h', toks := tk } ∧ Fr h₀ L h' m'
set_option maxRecDepth 100000 in
set_option maxHeartbeats 8000000 in
theorem ln48 : True := by
  k_with_none
  (k_with "LIT0" => (first | with_reducible assumption | ((first | (with_reducible show @LE.le Nat _ (OfNat.ofNat _) (OfNat.ofNat _)) | (with_reducible show @LT.lt Nat _ (OfNat.ofNat _) (OfNat.ofNat _))); exact Nat.le_of_ble_eq_true rfl)))
  (k_with "LIT1" => (first | with_reducible assumption | (with_reducible refine' Nat.lt_of_lt_of_le ?ha ?hb; (case ha => with_reducible assumption); (case hb => k_extra "LIT0")) | (with_reducible refine' Nat.lt_of_le_of_lt ?ha ?hb; (case ha => with_reducible assumption); (case hb => k_extra "LIT0")) | (with_reducible refine' Nat.le_trans ?ha ?hb; (case ha => with_reducible assumption); (case hb => k_extra "LIT0")) | (with_reducible refine' Nat.le_of_lt (Nat.lt_of_lt_of_le ?ha ?hb); (case ha => with_reducible assumption); (case hb => k_extra "LIT0")) | (with_reducible refine' Nat.lt_of_le_of_lt (Nat.le_of_eq ?ha) ?hb; (case ha => with_reducible assumption); (case hb => k_extra "LIT0")) | (with_reducible refine' Nat.le_trans (Nat.le_of_eq ?ha) ?hb; (case ha => with_reducible assumption); (case hb => k_extra "LIT0"))))
  (k_with "LIT2" => (first | with_reducible assumption | (with_reducible refine' Nat.lt_of_lt_of_le ?ha ?hb; (case ha => with_reducible assumption); (case hb => k_extra "LIT1")) | (with_reducible refine' Nat.lt_of_le_of_lt ?ha ?hb; (case ha => with_reducible assumption); (case hb => k_extra "LIT1")) | (with_reducible refine' Nat.le_trans ?ha ?hb; (case ha => with_reducible assumption); (case hb => k_extra "LIT1")) | (with_reducible refine' Nat.le_of_lt (Nat.lt_of_lt_of_le ?ha ?hb); (case ha => with_reducible assumption); (case hb => k_extra "LIT1")) | (with_reducible refine' Nat.lt_of_le_of_lt (Nat.le_of_eq ?ha) ?hb; (case ha => with_reducible assumption); (case hb => k_extra "LIT1")) | (with_reducible refine' Nat.le_trans (Nat.le_of_eq ?ha) ?hb; (case ha => with_reducible assumption); (case hb => k_extra "LIT1"))))
  (k_with "OM" => (first | with_reducible assumption | with_reducible exact Int.natCast_nonneg _ | with_reducible exact Int.ofNat_lt.mpr (by with_reducible assumption) | with_reducible exact i63 (by k_extra "LIT2") | k_extra "LIT2" | omega))
  (k_with "LTC" => (first | with_reducible assumption | (refine' Nat.lt_trans ?ha ?hb; (case ha => with_reducible assumption); (case hb => k_extra "LTC"))))
  (k_with "NEC" => ((refine neN ?_; (try dsimp only); first | (refine' Nat.ne_of_lt ?hc; (case hc => k_extra "LTC")) | (refine' Nat.ne_of_gt ?hc; (case hc => k_extra "LTC")) | omega)))
  (k_with "ROOMN" => (first | (refine' roomN ?ha (Nat.add_assoc _ _ _) ?hb; (case ha => with_reducible assumption); (case hb => exact rfl)) | (refine' roomN ?ha rfl ?hb; (case ha => with_reducible assumption); (case hb => exact rfl)) | (refine' roomN ?ha ((Nat.add_assoc _ _ _).trans (Nat.add_assoc _ _ _)) ?hb; (case ha => with_reducible assumption); (case hb => exact rfl)) | exact Nat.lt_of_le_of_lt (Nat.le_add_right _ _) (by with_reducible assumption)))
  (k_with "MKUNITS" => (first | k_extra "ROOMN" | ktr_units))
  (k_with "MKNE" => (first | k_extra "NEC" | ((try dsimp only); assumption) | ((try dsimp only); exact Ne.symm (by assumption)) | ((try dsimp only); exact News.ne (by with_reducible assumption) (by k_mem) (by k_mem) (ne_typ rfl))))
  (k_with "MKALL" => (first | assumption | exact List.forall_mem_nil _ | (refine' List.forall_mem_cons.mpr ⟨?a, ?b⟩; (case a => k_ne); (case b => k_all))))
  (k_with "GET" => (first | exact Fr.keep (by with_reducible assumption) _ _ (by with_reducible assumption) | exact News.get (by with_reducible assumption) (by k_mem)))
  (k_with "MKINST" => (exact instG (by k_extra "GET") (by k_extra "GET")))
  (k_with "MISLIST" => (exact isListG (by k_extra "GET")))
  (k_with "ENTER" => (((case ks => assumption); (case k1 => assumption); (case k2 => assumption); (case k3 => assumption); (case k4 => assumption); (case kr => assumption); (case k5 => assumption); (case kK => assumption); (case k8 => first | k_extra "ROOMN" | ktr_room); (case k6 => k_is); (case k7 => k_is); (case k9 => exact BindsTo.of_eq rfl); (case kB => exact locs rfl); (case c2 => exact rfl); (case c3 => exact rfl); (case c4 => exact rfl); (case c5 => decide))))
  (k_with "subscriptTail" => ((k_here; (with_reducible show wpAny _ _ (subscriptTail _ _ (Value.ref _) (Value.int _ _)) _ _ _); k_dflt (refine' item_list ?k1 ?k2 ?k3 ?k4 ?_; (case k1 => is_list); (case k4 => assumption); (case k2 => k_extra "OM"); (case k3 => k_extra "OM")))))
  (k_with "subscriptTail" => ((k_here; (with_reducible show wpAny _ _ (subscriptTail _ _ (Value.ref _) (Value.int 1 _)) _ _ _); k_dflt (refine' item_tup1 ?k1 ?_; (case k1 => k_extra "GET")))))
  (k_with "subscriptTail" => ((k_here; (with_reducible show wpAny _ _ (subscriptTail _ _ (Value.ref _) (Value.int 0 _)) _ _ _); k_dflt (refine' item_tup0 ?k1 ?_; (case k1 => k_extra "GET")))))
  (k_with "compareOp Eq ref ref" => ((k_here; (with_reducible show wpAny _ _ (compareOp CmpOp.Eq (Value.ref _) (Value.ref _)) _ _ _); k_dflt (refine' eq_tup ?k1 ?k2 ?k3 ?_; (case k1 => k_extra "GET"); (case k2 => k_extra "GET"); (case k3 => k_units)))))
  (k_with "ite" => (first | (refine ite_pos ?c ?_; (case c => ((try simp only [decide_eq_true_eq, beq_iff_eq, Bool.not_eq_true', decide_eq_false_iff_not, ne_eq]); first | assumption | omega))) | (refine ite_neg ?c ?_; (case c => ((try simp only [decide_eq_true_eq, beq_iff_eq, Bool.not_eq_true', decide_eq_false_iff_not, ne_eq]); first | assumption | omega)))))
  (k_with "execs cons" => (((with_reducible refine wpAny_execs_cons ?_); (try dsimp only); k_fold)))
  (k_with "STEPS" => (((try k_fold); (repeat' (first | walk1 | (k_unfold; (try dsimp only)) | (dsimp only; walk1))); (all_goals (try dsimp only)))))
  (k_with "LV" => (((try dsimp only [WhileStep2]); refine' LeaveM.mk ?k1 ?k2 ?_; (case k1 => with_reducible assumption); (case k2 => with_reducible assumption); intro _ nK; (try dsimp only [List.nil_append, List.cons_append] at nK); revert nK; intro _; (try dsimp only))))
  (k_with "ROOM" => (first | k_extra "ROOMN" | (simp only [recursionLimit, cLine] at *; omega)))
  (k_with "CTX" => (((case B => with_reducible assumption); (case F => with_reducible assumption); (case X => with_reducible assumption); (case T => with_reducible assumption); (case hk => first | exact rfl | assumption); (case hd => k_extra "ROOM"); (case hu => k_extra "ROOM"); (case N => with_reducible assumption))))
  (k_with "KEEP" => (first | with_reducible assumption | exact DerV.keep (by with_reducible assumption) (Fr.keep (by with_reducible assumption)) | exact Sto.keep (by with_reducible assumption) (Fr.keep (by with_reducible assumption)) | exact Bok.keep (by with_reducible assumption) (Fr.keep (by with_reducible assumption)) | exact TupG.keep (by with_reducible assumption) (Fr.keep (by with_reducible assumption)) | exact ⟨_, by k_extra "GET"⟩ | exact ⟨_, _, _, _, rfl, by k_extra "GET"⟩ | assumption))
  (k_with "AFTER" => (((try dsimp only); (try k_sweep))))
  (k_with "call builtin:len" => ((k_here; (with_reducible show wpAny _ _ (call (Value.builtin "len") [Value.ref _]) _ _ _); k_dflt (refine' len_any ?k1 ?k2 ?_; (case k1 => is_list); (case k2 => first | with_reducible assumption | ((try simp only [List.length_append, List.length_cons, List.length_nil, List.length_set]); omega))))))
  (k_with "call builtin:list.append" => ((k_here; (with_reducible show wpAny _ _ (call (Value.builtin _) [Value.ref _, _]) _ _ _); k_dflt (refine' append_any ?k1 ?k2 ?k3 ?_ ?z; (case k1 => k_asm); (case k2 => k_asm); (case k3 => k_upd); (case z => first | with_reducible assumption | ((try simp only [List.length_append, List.length_cons, List.length_nil, List.length_set]); omega)); k_whole); intro _ _ _; (try k_sweep))))
  (k_with "setItem ref int" => ((k_here; (with_reducible show wpAny _ _ (setItem (Value.ref _) (Value.int _ _) _) _ _ _); k_dflt (refine' set_any ?k1 ?k2 ?k3 ?k4 ?k5 ?k6 ?_; (case k1 => k_asm); (case k2 => k_asm); (case k3 => k_upd); (case k4 => k_extra "OM"); (case k5 => first | with_reducible assumption | ((try simp only [List.length_append, List.length_cons, List.length_nil, List.length_set]); omega)); (case k6 => k_extra "OM"); k_whole); intro _ _ _; (try k_sweep))))
  (k_with "CTX2" => (((case B => with_reducible assumption); (case F => with_reducible assumption); (case X => with_reducible assumption); (case T => with_reducible assumption); (case hk => first | exact rfl | assumption); (case hd => k_extra "ROOM"); (case hu => k_extra "ROOM"))))
  (k_with "SEP" => (((repeat' (first | assumption | exact sep_nil | refine sep_app ?_ ?_ | refine sep_cons ?_ ?_)); (all_goals ((repeat' (first | exact nmNil | refine nmCons ?_ ?_)); all_goals first | assumption | k_extra "NEC" | exact Ne.symm (by assumption) | exact News.ne (by with_reducible assumption) (by k_mem) (by k_mem) (ne_typ rfl))))))
  (k_with "SPLIT1" => (first | (refine' News.at0 ?n; (case n => with_reducible assumption)) | (refine' News.at1 ?n; (case n => with_reducible assumption)) | (refine' News.at2 ?n; (case n => with_reducible assumption)) | (refine' News.at3 ?n; (case n => with_reducible assumption)) | (refine' News.at4 ?n; (case n => with_reducible assumption)) | (refine' News.at5 ?n; (case n => with_reducible assumption)) | (refine' News.at6 ?n; (case n => with_reducible assumption))))
  (k_with "pyIter ref" => (refine stopHere ?_))
  (k_with "SEPI" => (((repeat' (first | assumption | exact sep_nil | refine sep_app ?_ ?_ | refine sep_cons ?_ ?_)); (all_goals ((try dsimp only); first | assumption | k_extra "NEC" | exact Ne.symm (by assumption))))))
  (k_with "SUBT" => (first | exact sub_refl | (refine sub_cons ?_; k_extra "SUBT") | (refine sub_right ?_; k_extra "SUBT") | (refine sub_left ?_; k_extra "SUBT")))
  (k_with "MEM" => (first | exact memH | (with_reducible refine List.mem_append_right _ ?_; k_extra "MEM") | (with_reducible refine List.mem_append_left _ ?_; k_extra "MEM") | (with_reducible refine memT ?_; k_extra "MEM")))
  (k_with "SUBT2" => (first | exact sub_refl | (with_reducible refine sub_right ?_; k_extra "SUBT2") | (with_reducible refine sub_left ?_; k_extra "SUBT2") | (with_reducible refine sub_cons ?_; k_extra "SUBT2")))
  (k_with "SUBM" => (((repeat' (first | exact sep_nil | refine sep_app ?_ ?_ | refine sep_cons ?_ ?_)); (all_goals first | k_extra "MEM" | k_extra "SUBT2"))))
  (k_with "SUB" => (((repeat' (first | exact sep_nil | refine sep_app ?_ ?_ | refine sep_cons ?_ ?_)); (all_goals first | k_mem | k_extra "MEM" | k_extra "SUBT2" | (simp only [List.mem_append, List.mem_cons, List.not_mem_nil, true_or, or_true, or_false, false_or]; done) | (intro _ hx9; simp only [hx9, List.mem_append, List.mem_cons, List.not_mem_nil, true_or, or_true, or_false, false_or]; done) | k_extra "SUBT"))))
  (k_with "exec For Name Name cons nil" => ((k_here; (with_unfolding_all refine' For_invVF ?kF ?k1 ?k2 ?_; (case kF => assumption); (case k1 => exact rfl); (case k2 => exact rfl); k_whole))))
  (k_with "exec For Name Call cons nil" => ((k_here; (with_unfolding_all refine' For_invVF ?kF ?k1 ?k2 ?_; (case kF => assumption); (case k1 => exact rfl); (case k2 => exact rfl); k_whole))))
  (k_with "exec For Name Subscript cons nil" => ((k_here; (with_unfolding_all refine' For_invVF ?kF ?k1 ?k2 ?_; (case kF => assumption); (case k1 => exact rfl); (case k2 => exact rfl); k_whole))))
  (k_with "exec For Name Attribute cons nil" => ((k_here; (with_unfolding_all refine' For_invVF ?kF ?k1 ?k2 ?_; (case kF => assumption); (case k1 => exact rfl); (case k2 => exact rfl); k_whole))))
  (k_with "KEEP" => (first | with_reducible assumption | exact DerV.keep (by with_reducible assumption) (Fr.keep (by with_reducible assumption)) | exact Sto.keep (by with_reducible assumption) (Fr.keep (by with_reducible assumption)) | exact Bok.keep (by with_reducible assumption) (Fr.keep (by with_reducible assumption)) | exact TupG.keep (by with_reducible assumption) (Fr.keep (by with_reducible assumption)) | exact ⟨_, by k_extra "GET"⟩ | exact ⟨_, _, _, _, rfl, by k_extra "GET"⟩ | assumption))
  (k_with "call ref" => ((k_here; (with_reducible show wpAny _ _ (call (Value.ref 154) _) _ _ _); refine stopHere ?_)))
  (k_with "call ref" => ((k_here; (with_reducible show wpAny _ _ (call (Value.ref 381) _) _ _ _); refine stopHere ?_)))
  (k_with "call ref" => ((k_here; (with_reducible show wpAny _ _ (call (Value.ref 411) _) _ _ _); refine stopHere ?_)))
  (k_with "call ref" => ((k_here; (with_reducible show wpAny _ _ (call (Value.ref 418) _) _ _ _); refine stopHere ?_)))
  (k_with "call ref" => ((k_here; (with_reducible show wpAny _ _ (call (Value.ref 109) _) _ _ _); refine stopHere ?_)))
  (k_with "call ref" => ((k_here; (with_reducible show wpAny _ _ (call (Value.ref 342) _) _ _ _); refine stopHere ?_)))
  (k_with "call ref" => ((k_here; (with_reducible show wpAny _ _ (call (Value.ref 209) _) _ _ _); refine stopHere ?_)))
  (k_with "call ref" => ((k_here; (with_reducible show wpAny _ _ (call (Value.ref 244) _) _ _ _); refine stopHere ?_)))
  (k_with "call ref" => ((k_here; (with_reducible show wpAny _ _ (call (Value.ref 279) _) _ _ _); refine stopHere ?_)))
  (k_with "call ref" => ((k_here; (with_reducible show wpAny _ _ (call (Value.ref 230) _) _ _ _); refine stopHere ?_)))
  (k_with "call ref" => ((k_here; (with_reducible show wpAny _ _ (call (Value.ref 397) _) _ _ _); refine stopHere ?_)))
  (k_with "call ref" => ((k_here; (with_reducible show wpAny _ _ (call (Value.ref 404) _) _ _ _); refine stopHere ?_)))
  (k_with "SEPL" => (((repeat' (first | assumption | exact sep_nil | refine sep_app ?_ ?_ | refine sep_cons ?_ ?_)); (all_goals first | exact sepOne (by assumption) | exact sepTwo (by assumption) (by assumption) | exact sepFour (by assumption) (by assumption) (by assumption) (by assumption) | ((repeat' (first | exact nmNil | refine nmCons ?_ ?_)); all_goals first | assumption | k_extra "NEC" | exact Ne.symm (by assumption) | exact News.ne (by with_reducible assumption) (by k_mem) (by k_mem) (ne_typ rfl))))))
  (k_with "execs cons" => (((with_reducible show wpAny _ _ (execs (Stmt.If _ _ _ _ :: Stmt.Assign [Expr.Name (Str.ofString "met") _] _ _ :: _) _) _ _ _); refine stopHere ?_)))
  trivial
theorem law_try : PySem.Challenge.rw_rh0088_01.Holds := Mine.top (by
  k_go0
  (all_goals try k_fold)
  k_extra "STEPS"
  rename_i oc1 oc2 hc1 hc2 X0 _ _ _ _ D ws _ hI _ lD l1 U _ l2 _ F' N'
  have r1 := ltN l2.1
  have r2 := ltN l1.2
  have r3 := ltN l1.1
  show wpAny _ (ktrTop 302 7 (some []) _ _ _ _ _ _ []) _ _ _ _
  k_dflt (refine' make_any (K := Mine.hd.heap_1 _) ?F ?X ?N ?hm ?hi ?hf ?_; (case F => with_reducible assumption); (case X => with_reducible assumption); (case N => with_reducible assumption); (case hm => rfl); (case hi => rfl); (case hf => rfl))
  intro bk dbk h' F' N' l3 l4
  have hbU := ltN (l3 _ (.head _))
  have hbD := ltN (l3 _ (.tail _ (.head _)))
  have hb1 := ltN (l3 _ (.tail _ (.tail _ (.head _))))
  have hb2 := ltN (l3 _ (.tail _ (.tail _ (.tail _ (.head _)))))
  dsimp only at hbU hbD hb1 hb2
  have l4' := ltN l4
  have lDs := modules_low (Top.nolimit (by assumption))
  have lo9 : (dbk == sysModules) = false := beq_eq_false_iff_ne.mpr (Nat.ne_of_gt (Nat.lt_trans lDs (Nat.lt_trans (Nat.lt_succ_self _) hb2)))
  have nb9 : ¬ bk = dbk := Nat.ne_of_gt l4
  k_dflt (refine' init_walk (pre := []) (bk := bk) (dbk := dbk) (post := _ :: _ :: _ :: _ :: []) ?B ?F ?X ?T ?hk ?hd ?hu ?N ?sep ?hne ?lo ?_; (case B => with_reducible assumption); (case F => with_reducible assumption); (case X => with_reducible assumption); (case T => with_reducible assumption); (case hk => rfl); (case hd => decide); (case hu => decide); (case N => exact N'); (case sep => k_extra "SEP"); (case hne => assumption); (case lo => assumption))
  intro h' tk' TX AN FL FN kk ts n1 oA fs n2 oF nt hA hF hnt loA loF o1 o2 o3 o4 o5 fr9 frn F' N'
  refine ⟨rfl, ?_⟩
  k_extra "STEPS"
  (try dsimp only [List.nil_append, List.cons_append, List.append_assoc] at N')
  rename News _ _ _ _ => N9
  simp only [List.nil_append, List.cons_append, List.append_assoc] at N9
  show wpAny _ (ktrTop 302 7 (some []) _ _ _ _ _ _ []) _ _ _ _
  k_dflt (refine' make_any (K := Mine.hd.heap_1 _) ?F ?X ?N ?hm ?hi ?hf ?_; (case F => with_reducible assumption); (case X => with_reducible assumption); (case N => with_reducible assumption); (case hm => rfl); (case hi => rfl); (case hf => rfl))
  intro st dst h' F' N' l5 l6
  have ld : dbk < dst := l5 (dbk, _) (by k_mem)
  have lo8 : (dst == sysModules) = false := beq_eq_false_iff_ne.mpr (Nat.ne_of_gt (Nat.lt_trans lDs (Nat.lt_trans (Nat.lt_succ_self _) (Nat.lt_trans hb2 ld))))
  have ld' := ltN ld
  have l6' := ltN l6
  have nb8 : ¬ st = dst := Nat.ne_of_gt l6
  have l7 : ∀ x ∈ nt, x.1 < dst := fun x hx => l5 x (by simp [hx])
  have oTX := ltN (l5 (TX, _) (by k_mem))
  have oAN := ltN (l5 (AN, _) (by k_mem))
  have oFL := ltN (l5 (FL, _) (by k_mem))
  have oFN := ltN (l5 (FN, _) (by k_mem))
  have obk := ltN (l5 (bk, _) (by k_mem))
  clear l5 l3
  have s7 : ∀ q ∈ nt, q.1 ∉ [(st, instObj 381 dst), (dst, dictOf [] 0)].map (·.1) := fun q hq => by
    have := ltN (l7 q hq)
    simp only [List.map_cons, List.map_nil, List.mem_cons, List.not_mem_nil, or_false, not_or]
    exact ⟨Nat.ne_of_lt (by k_extra "OM"), Nat.ne_of_lt (by k_extra "OM")⟩
  k_dflt (refine' cinit_walk (pre := []) (st := st) (dst := dst) ?B ?F ?X ?T ?hk ?hd ?hu ?N ?sep ?hne ?lo ?_; (case B => with_reducible assumption); (case F => with_reducible assumption); (case X => with_reducible assumption); (case T => with_reducible assumption); (case hk => rfl); (case hd => decide); (case hu => decide); (case N => exact N'); (case sep => k_extra "SEP"); (case hne => assumption); (case lo => assumption))
  intro h' tk' H S Tr kk2 uu p1 p2 p3 fr8 F' N'
  refine ⟨rfl, ?_⟩
  simp only [List.nil_append, List.cons_append, List.append_assoc] at N'
  clear N9
  obtain ⟨m0, F0⟩ : ∃ m0, Fr _ _ _ (over [(Str.ofString "book", .ref bk), (Str.ofString "urn", .ref U)] m0) := ⟨_, Mine.Fr.form F' (.cons rfl (.cons rfl .nil))⟩
  clear F'
  have N9 : News _ _ _ ((U, listOf [.int 0 _, .ref D, .int 0 _].toArray 0) :: (H, listOf [].toArray 0) :: (S, listOf [].toArray 0) :: (TX, listOf ts.toArray n1) :: (AN, oA) :: (FL, listOf fs.toArray n2) :: (FN, oF) :: (D, listOf ws.toArray 0) :: (st, instObj 381 dst) :: (dst, dictOf (stE _ bk H S Tr kk2 uu) 7) :: (bk, instObj 154 dbk) :: (dbk, dictOf (bkE _ TX AN FL FN kk) 4) :: (_, oc1) :: (_, oc2) :: nt) := News.sub N' (by
    intro x hx
    simp only [List.mem_append, List.mem_cons, List.not_mem_nil, or_false, or_assoc] at hx ⊢
    obtain hx | hx | hx | hx | hx | hx | hx | hx | hx | hx | hx | hx | hx | hx | hx := hx
    · exact .inr (.inr (.inr (.inr (.inr (.inr (.inr (.inr (.inr (.inr (.inr (.inl hx)))))))))))
    · exact .inl hx
    · exact .inr (.inl hx)
    · exact .inr (.inr (.inr (.inr (.inl hx))))
    · exact .inr (.inr (.inr (.inr (.inr (.inl hx)))))
    · exact .inr (.inr (.inr (.inr (.inr (.inr (.inl hx))))))
    · exact .inr (.inr (.inr (.inr (.inr (.inr (.inr (.inl hx)))))))
    · exact .inr (.inr (.inr (.inr (.inr (.inr (.inr (.inr (.inr (.inr (.inr (.inr (.inl hx))))))))))))
    · exact .inr (.inr (.inl hx))
    · exact .inr (.inr (.inr (.inl hx)))
    · exact .inr (.inr (.inr (.inr (.inr (.inr (.inr (.inr (.inl hx))))))))
    · exact .inr (.inr (.inr (.inr (.inr (.inr (.inr (.inr (.inr (.inl hx)))))))))
    · exact .inr (.inr (.inr (.inr (.inr (.inr (.inr (.inr (.inr (.inr (.inr (.inr (.inr (.inl hx)))))))))))))
    · exact .inr (.inr (.inr (.inr (.inr (.inr (.inr (.inr (.inr (.inr (.inr (.inr (.inr (.inr hx)))))))))))))
    · exact .inr (.inr (.inr (.inr (.inr (.inr (.inr (.inr (.inr (.inr (.inl hx)))))))))))
  clear N'
  have c1n : ∀ q ∈ nt, q.1 ≠ _ := fun q hq => frn q hq _ (.tail _ (.tail _ (.head _)))
  have c2n : ∀ q ∈ nt, q.1 ≠ _ := fun q hq => frn q hq _ (.tail _ (.tail _ (.tail _ (.head _))))
  dsimp only at c1n c2n
  clear fr8 fr9 frn
  have o1' := ltN o1
  have o2' := ltN o2
  have o3' := ltN o3
  have o4' := ltN o4
  have o5' := ltN o5
  have p1' := ltN p1
  have p2' := ltN p2
  have p3' := ltN p3
  k_extra "STEPS"
  rename_i CL _ l7' _ o1c dc1 _ _ SL _ l8' _ _ _ KL _ l9' _ o2c F' N' dc2
  have r4 := ltN l7'.2.2.1
  have r5 := ltN l8'.1
  have r6 := ltN l9'.1
  have hws : ws.length ≤ 50 := by
    have := hI.length
    rw [List.length_take] at this
    omega
  show wpAny _ (ktrTop 302 7 (some []) _ _ _ _ _ _ []) _ _ _ _
  have sU : ∀ q ∈ nt, q.1 ≠ U := News.neAll N' (by k_extra "SUBT") hnt (by k_mem) list_ne_tuple
  k_dflt (refine' pick_spec (pre := [_, _, _]) ?B ?F ?X ?T ?hk ?hd ?hu ?N ?sep ?hD ?hDU ?hI ?hl ?x0 ?i0 ?i1 ?k0 ?k1 ?_; (case B => with_reducible assumption); (case F => with_reducible assumption); (case X => with_reducible assumption); (case T => with_reducible assumption); (case hk => rfl); (case hd => decide); (case hu => decide); (case N => exact N'); (case sep => k_extra "SEPL"); (case hD => exact ⟨_, by k_extra "GET"⟩); (case hDU => k_extra "NEC"); (case hI => exact hI); (case hl => k_extra "OM"); (case x0 => decide); (case i0 => decide); (case i1 => exact Int.natCast_nonneg _); (case k0 => decide); (case k1 => decide))
  intro h' tk' v tv x0 xi t0 t1 nU v0 v1 hx0 hxi hxl F' N'
  obtain ⟨nv, hnv, hn5⟩ : ∃ nv : Nat, v = (nv : Int) ∧ Hid (nv < 5) := ⟨v.toNat, by omega, by show v.toNat < 5; omega⟩
  subst hnv
  clear v0 v1 sU
  k_extra "STEPS"
  have e2 : (2 : Int) + (nv : Int) = ((nv + 2 : Nat) : Int) := by omega
  rename IsRange _ _ _ _ _ _ _ _ => hr9
  rw [e2] at hr9
  rename News _ _ _ _ => N8
  have N9 := News.sub (b := (U, listOf [.int x0 t0, .ref D, .int xi t1].toArray nU) :: (H, listOf [].toArray 0) :: (S, listOf [].toArray 0) :: (TX, listOf ts.toArray n1) :: (AN, oA) :: (FL, listOf fs.toArray n2) :: (FN, oF) :: (CL, listOf [].toArray 0) :: (SL, listOf [].toArray 0) :: (KL, listOf [].toArray 0) :: ([(D, listOf ws.toArray 0), (st, instObj 381 dst), (dst, dictOf (stE _ bk H S Tr kk2 uu) 7), (bk, instObj 154 dbk), (dbk, dictOf (bkE _ TX AN FL FN kk) 4), (_, o1c), (_, o2c)] ++ ([] ++ nt))) N8 (by k_extra "SUB")
  refine for_range (n := nv + 2) (JL _ _ ws.length U H S TX AN FL FN CL SL KL D st dst bk dbk [(D, listOf ws.toArray 0), (st, instObj 381 dst), (dst, dictOf (stE _ bk H S Tr kk2 uu) 7), (bk, instObj 154 dbk), (dbk, dictOf (bkE _ TX AN FL FN kk) 4), (_, o1c), (_, o2c)]) rfl rfl hr9 (range0_small (by unfold Hid at hn5; omega)) range0_size (by assumption) N9 ⟨x0, xi, t0, t1, nU, [], 0, [], 0, ts, n1, oA, fs, n2, oF, [], 0, [], 0, [], 0, nt, [], _, _, [], [], [], .cons rfl (.cons rfl (.cons rfl (.cons rfl .nil))), rfl, ⟨hx0, hxi, hxl, .nil, .nil, .nil, .nil, .nil, hA, hF, book_start, ⟨fun _ => (0, 0), fun _ => 0, WF.nil⟩, rfl, Nat.zero_le _, Nat.zero_le _, hnt, sep_nil, fun h => absurd h (Nat.lt_irrefl 0)⟩⟩ ?_ ?_
  · rintro i t m₁ news₁ h₁ tk₁ I oI hi hJ hne cI F₁ N₁
    have hn6 : nv < 5 := hn5
    exact wpAny_mono (law_turn (t := t) (by with_reducible assumption) (by with_reducible assumption) (by with_reducible assumption) (by decide) (by decide) hws hI (show i < 6 by omega) lDs r1 hbU l4' o2' o3' o4' o5' oFN l6' p1' p3' r4 r5 r6 r2 r3 dc1 dc2 cI hJ hne F₁ N₁) (fun _ _ h => h) (fun _ _ e => e.elim)
  · rintro m₁ news₁ h₁ tk₁ hJ F₁ N₁
    k_extra "STEPS"
    show wpAny _ _ _ _ _ _
    have hn6 : nv < 5 := hn5
    refine wpAny_mono (law_rest7 (Q := EndP _ _ _) (by with_reducible assumption) (by with_reducible assumption) (by with_reducible assumption) (by decide) (by decide) hws hI (show nv + 2 ≤ 6 by omega) (by k_extra "OM") r1 hbU l4' o2' o3' o4' o5' oFN l6' p1' p3' r4 r5 r6 r2 r3 dc1 dc2 hJ F₁ N₁ (fun h' tk m' F => ⟨rfl, h', tk, m', rfl, F⟩)) (fun fl s' hz => ?_) (fun _ _ e => e.elim)
    obtain ⟨rfl, h', tk, m', rfl, F'⟩ := hz
    wrow_close)
end PartLaw
end Mine
theorem PySem.Challenge.cw_rh0088_01_holds : PySem.Challenge.rw_rh0088_01.Holds :=
  Mine.law_try