import PyProof.Rows.All
import Wide.All
import OpenK.AllK
import Wide.FinOn
import Lean
import PySem.Challenge.RW_sa0383_01
open PySem PySem.W PyProof.Rows PySem.Spec PySem.Calls
set_option maxRecDepth 100000
set_option maxHeartbeats 8000000
set_option linter.unusedVariables false
namespace Mine
theorem hd.tw10180746495848690579 : True := trivial
theorem hd.tw13047593935725612058 : True := trivial
theorem hd.tw8587404781116728655 : True := trivial
theorem hd.tw13293453174229064190 : True := trivial
theorem hd.tw7519716089354478335 : True := trivial
theorem hd.tw978945382295711627 : True := trivial
theorem hd.tw11034497122203965937 : True := trivial
theorem hd.tw6293948785866598258 : True := trivial
theorem hd.tw9641152695372364146 : True := trivial
theorem hd.tw17325209927041812611 : True := trivial
theorem hd.tw12591134339009171964 : True := trivial
theorem hd.tw4138081844389336918 : True := trivial
theorem hd.tw3499863662025972479 : True := trivial
theorem hd.tw9577689765879766989 : True := trivial
theorem hd.tw10216474801634566288 : True := trivial
theorem hd.tw5148922909946612681 : True := trivial
theorem hd.tw5781342201191254626 : True := trivial
theorem hd.tw1452849714261714991 : True := trivial
theorem hd.tw12631932088317031055 : True := trivial
theorem hd.tw14176624398918483544 : True := trivial
theorem hd.tw15043168886218598503 : True := trivial
theorem hd.tw2448417245163862455 : True := trivial
theorem hd.tw960944832710211464 : True := trivial
theorem hd.tw307737655149646647 : True := trivial
theorem hd.tw3953601041324332601 : True := trivial
theorem hd.tw11117797201346649052 : True := trivial
theorem hd.tw6046454685291232161 : True := trivial
theorem hd.tw10543509907540572799 : True := trivial
theorem hd.tw10507497572311344420 : True := trivial
theorem hd.tw18241275227582772068 : True := trivial
theorem hd.tw9077708301081682751 : True := trivial
theorem hd.tw13066319289922817542 : True := trivial
theorem hd.tw8047900516022102942 : True := trivial
theorem hd.tw14896477498954680388 : True := trivial
theorem hd.tw6998783941825042932 : True := trivial
theorem hd.tw16772102934027710169 : True := trivial
theorem hd.tw12936449754285732098 : True := trivial
theorem hd.tw3625682410889870493 : True := trivial
theorem hd.tw7752767780024739350 : True := trivial
theorem hd.tw17577478241444706838 : True := trivial
theorem hd.tw17583924267553061668 : True := trivial
theorem hd.tw6528754448969337418 : True := trivial
theorem hd.tw9073681462420916055 : True := trivial
theorem hd.tw8177151238355350360 : True := trivial
theorem hd.tw5373601922739893978 : True := trivial
theorem hd.tw7540655947842036084 : True := trivial
theorem hd.tw7854228177987924090 : True := trivial
theorem hd.tw4014540891139286612 : True := trivial
theorem hd.tw4990156530697904881 : True := trivial
theorem hd.tw7354087734392854552 : True := trivial
theorem hd.tw7080932558258925280 : True := trivial
theorem hd.tw8015326511298524721 : True := trivial
theorem hd.tw7746578258024575070 : True := trivial
theorem hd.tw11953376511379268794 : True := trivial
theorem hd.tw3182187488490625086 : True := trivial
theorem hd.tw13518370688599389936 : True := trivial
theorem hd.tw11249132867342737325 : True := trivial
theorem hd.tw5562173858411828344 : True := trivial
theorem hd.tw3443669649825651883 : True := trivial
theorem hd.tw3915529967508079626 : True := trivial
theorem hd.tw6545403380812914513 : True := trivial
theorem hd.tw4817003022231809500 : True := trivial
theorem hd.tw7698358502638924378 : True := trivial
theorem hd.tw9271970288684553227 : True := trivial
theorem hd.tw13609717118414637909 : True := trivial
theorem hd.tw8081886968326746073 : True := trivial
theorem hd.tw6636792957720756321 : True := trivial
theorem hd.tw14400467628812073631 : True := trivial
theorem hd.tw14294001040229213422 : True := trivial
theorem hd.tw13280443560766958183 : True := trivial
theorem hd.tw2502866573005156581 : True := trivial
theorem hd.tw12901994302517312135 : True := trivial
theorem hd.tw1299046323782801668 : True := trivial
theorem hd.tw5987830557187376847 : True := trivial
theorem hd.tw17901334829092211166 : True := trivial
theorem hd.tw5262127132688788605 : True := trivial
theorem hd.tw7628703163842673926 : True := trivial
theorem hd.tw5873113503399164460 : True := trivial
theorem hd.tw1088296927520436173 : True := trivial
theorem hd.tw1865391376527767206 : True := trivial
theorem hd.tw5513025101015932971 : True := trivial
theorem hd.tw11399449904127653305 : True := trivial
theorem hd.tw8117029840178788049 : True := trivial
theorem hd.tw17481043832863051963 : True := trivial
theorem hd.tw7292484366425897655 : True := trivial
theorem hd.tw701787995468756871 : True := trivial
theorem hd.tw7914949630228597729 : True := trivial
theorem hd.tw7676003278276379012 : True := trivial
theorem hd.tw4292457097857839397 : True := trivial
theorem hd.tw190519026028168232 : True := trivial
theorem hd.tw17420951861521290806 : True := trivial
theorem hd.tw5978321128707920903 : True := trivial
theorem hd.tw6060742912462422084 : True := trivial
theorem hd.tw266627367137399047 : True := trivial
theorem hd.tw1118553966540926140 : True := trivial
theorem hd.tw9783614193127449063 : True := trivial
theorem hd.tw5635641802508607975 : True := trivial
theorem hd.tw8977307856219701671 : True := trivial
theorem hd.tw8191903926673212241 : True := trivial
theorem hd.tw8727321023445011275 : True := trivial
theorem hd.tw4993660671451451078 : True := trivial
theorem hd.tw3085183777334472315 : True := trivial
theorem hd.tw17628472586750557451 : True := trivial
theorem hd.tw1563692795949630186 : True := trivial
theorem hd.tw5245234834050458271 : True := trivial
theorem hd.tw7541792107247259296 : True := trivial
theorem hd.tw2284436838669742495 : True := trivial
theorem hd.tw15166520500009309586 : True := trivial
theorem hd.tw16794629799341752650 : True := trivial
theorem hd.tw11011131195910976488 : True := trivial
theorem hd.tw16412773359747925120 : True := trivial
theorem hd.tw3434918251397683217 : True := trivial
theorem hd.tw4225703048834024713 : True := trivial
theorem hd.tw9557236495431379559 : True := trivial
theorem hd.tw7366208706002141716 : True := trivial
theorem hd.tw4015398097383911347 : True := trivial
theorem hd.tw3828038474966422129 : True := trivial
theorem hd.tw8004679753235328684 : True := trivial
theorem hd.tw16853341256802265648 : True := trivial
theorem hd.tw2595994805191909183 : True := trivial
theorem hd.tw1588505670450824345 : True := trivial
theorem hd.tw9325612240067072397 : True := trivial
theorem hd.tw4523669819894539328 : True := trivial
theorem hd.tw14768889098011018680 : True := trivial
theorem hd.tw17588044629489971554 : True := trivial
theorem hd.tw10727248033764811480 : True := trivial
theorem hd.tw14859038896228082724 : True := trivial
theorem hd.tw6186238094035137676 : True := trivial
theorem hd.tw14960593345356199642 : True := trivial
theorem hd.tw4182648748547736412 : True := trivial
theorem hd.tw10743916045514856203 : True := trivial
theorem hd.tw14705683404202351889 : True := trivial
theorem hd.tw3404104791013757517 : True := trivial
theorem hd.tw16257038226119295666 : True := trivial
theorem hd.tw8652628183442184457 : True := trivial
theorem hd.tw16828841361933241965 : True := trivial
theorem hd.tw15083628210047938546 : True := trivial
theorem hd.tw13642289790063256904 : True := trivial
theorem hd.tw13866372431405929976 : True := trivial
theorem hd.tw15833661619300960221 : True := trivial
theorem hd.tw12112201142124510154 : True := trivial
theorem hd.tw8044012406986999415 : True := trivial
theorem hd.tw8589211134812392127 : True := trivial
theorem hd.tw12394076208661396346 : True := trivial
theorem hd.tw13038990169509382042 : True := trivial
theorem hd.tw4643362625855044894 : True := trivial
theorem hd.tw13931416462566266981 : True := trivial
theorem hd.tw3510980238559043118 : True := trivial
theorem hd.tw262745018181394680 : True := trivial
theorem hd.tw9013056391748086436 : True := trivial
theorem hd.tw13322179722446271537 : True := trivial
theorem hd.tw14991384322417631237 : True := trivial
theorem hd.tw2951005344575393816 : True := trivial
theorem hd.tw8716120427605611371 : True := trivial
theorem hd.tw7763873220885509757 : True := trivial
theorem hd.tw12364972598781006883 : True := trivial
theorem hd.tw6276725880618359904 : True := trivial
theorem hd.tw991583007596301734 : True := trivial
theorem hd.tw9238262914530080051 : True := trivial
theorem hd.tw17989097746536338734 : True := trivial
theorem hd.tw5505005885091257285 : True := trivial
theorem hd.tw10788059911547816233 : True := trivial
theorem hd.tw15048261121198461528 : True := trivial
theorem hd.tw17491280204586788870 : True := trivial
theorem hd.tw1589133516308662214 : True := trivial
theorem hd.tw10781468475247234061 : True := trivial
theorem hd.tw13092906067662860646 : True := trivial
theorem hd.tw18282886421538689439 : True := trivial
theorem hd.tw1415891422023803571 : True := trivial
theorem hd.tw432457690288141553 : True := trivial
theorem hd.tw11210553801493137410 : True := trivial
theorem hd.tw11785442959627412574 : True := trivial
theorem hd.tw13220430256171166289 : True := trivial
theorem hd.tw7068711184596962023 : True := trivial
theorem hd.tw1413172679324656950 : True := trivial
theorem hd.tw663384727985864361 : True := trivial
theorem hd.tw13160604113216922460 : True := trivial
theorem hd.tw9719896912496429819 : True := trivial
theorem hd.tw9908193460736022307 : True := trivial
theorem hd.tw16919406825032445293 : True := trivial
theorem hd.tw825126770350376351 : True := trivial
theorem hd.tw8210421348078903774 : True := trivial
theorem hd.tw10583446816852156582 : True := trivial
theorem hd.tw10030107230732127627 : True := trivial
theorem hd.tw12949589719889679912 : True := trivial
theorem hd.tw8879563391730754479 : True := trivial
theorem hd.tw8268277133935991078 : True := trivial
theorem hd.tw3419581819265744254 : True := trivial
theorem hd.tw10024716035694756283 : True := trivial
theorem hd.tw10404513684093684653 : True := trivial
theorem hd.tw15758074444808864293 : True := trivial
theorem hd.tw18302498484699191785 : True := trivial
theorem hd.tw7512474625130614241 : True := trivial
theorem hd.tw7382370116671421104 : True := trivial
theorem hd.tw16154546982801380032 : True := trivial
theorem hd.tw10292235466723388172 : True := trivial
theorem hd.tw18166333605607142505 : True := trivial
theorem hd.tw212345690472687942 : True := trivial
theorem hd.tw16299908979028503884 : True := trivial
theorem hd.tw1359830224848277088 : True := trivial
theorem hd.tw11079593142295127227 : True := trivial
theorem hd.tw2327210489368252092 : True := trivial
theorem hd.tw14560493823538711346 : True := trivial
theorem hd.tw9398405308114057262 : True := trivial
theorem hd.tw7379015992945566340 : True := trivial
theorem hd.tw6164396464334811476 : True := trivial
theorem hd.tw10919297434634762262 : True := trivial
theorem hd.tw10847404155465417027 : True := trivial
theorem hd.tw14438451200097066615 : True := trivial
theorem hd.tw15199589371867527261 : True := trivial
theorem hd.tw8934143017859847078 : True := trivial
theorem hd.tw16844792564451582099 : True := trivial
theorem hd.tw6184208073178115725 : True := trivial
theorem hd.tw3350930974749635488 : True := trivial
theorem hd.tw1013155817946168525 : True := trivial
theorem hd.tw12861998865439983172 : True := trivial
theorem hd.tw1409312971732116557 : True := trivial
theorem hd.tw16970440968685349367 : True := trivial
theorem hd.tw4870687313549177768 : True := trivial
theorem hd.tw12350410155528471161 : True := trivial
theorem hd.tw5292301768408028288 : True := trivial
theorem hd.tw243823211424636713 : True := trivial
theorem hd.tw6683769817339685419 : True := trivial
theorem hd.tw1954109241102656831 : True := trivial
theorem hd.tw6965799899956892507 : True := trivial
theorem hd.tw13409441903868389331 : True := trivial
theorem hd.tw9763420282994701918 : True := trivial
theorem hd.tw9155422001095189878 : True := trivial
theorem hd.tw14906377314874228009 : True := trivial
theorem hd.tw15042006015671813226 : True := trivial
theorem hd.tw6931407450589930559 : True := trivial
theorem hd.tw8112040973832200146 : True := trivial
theorem hd.tw16640546478005224243 : True := trivial
theorem hd.tw18343703819029505601 : True := trivial
theorem hd.tw17681399029576232318 : True := trivial
theorem hd.tw10203026625882799534 : True := trivial
theorem hd.tw9132557439983319658 : True := trivial
theorem hd.tw2040990291671593033 : True := trivial
theorem hd.tw13783031573616600631 : True := trivial
theorem hd.tw1331086792558400476 : True := trivial
theorem hd.tw7152984921513172624 : True := trivial
theorem hd.tw13315533130655954831 : True := trivial
theorem hd.tw3309697970292668127 : True := trivial
theorem hd.tw6079173187612997037 : True := trivial
theorem hd.tw6140570298594658328 : True := trivial
theorem hd.tw9741134391959003819 : True := trivial
theorem hd.tw11918464104331161477 : True := trivial
theorem hd.tw9496365245306024149 : True := trivial
theorem hd.tw5009564483982726761 : True := trivial
theorem hd.tw8479784124755550697 : True := trivial
theorem hd.tw11709330566771433103 : True := trivial
theorem hd.tw2480057099694739299 : True := trivial
theorem hd.tw15152743547302097792 : True := trivial
theorem hd.tw5657824000916062451 : True := trivial
theorem hd.tw5608270528595127837 : True := trivial
theorem hd.tw10390121572340787421 : True := trivial
theorem hd.tw11663481321943121269 : True := trivial
theorem hd.tw7927469264209771579 : True := trivial
theorem hd.tw6308581086252854402 : True := trivial
theorem hd.tw3442329435671937591 : True := trivial
theorem hd.tw9298403506768410418 : True := trivial
theorem hd.tw15029828605326306940 : True := trivial
theorem hd.tw12952509933414984302 : True := trivial
theorem hd.tw10860895700388868024 : True := trivial
theorem hd.tw7317836474542784337 : True := trivial
theorem hd.tw2442259710966052079 : True := trivial
theorem hd.tw16211521421427940678 : True := trivial
theorem hd.tw14029546391885035639 : True := trivial
theorem hd.tw185848376630758926 : True := trivial
theorem hd.tw8789358453043137523 : True := trivial
theorem hd.tw3688195252669026205 : True := trivial
theorem hd.tw14745743045033390146 : True := trivial
theorem hd.tw4315991029959535628 : True := trivial
theorem hd.tw7153062008950511462 : True := trivial
theorem hd.tw5036846961687405229 : True := trivial
theorem hd.tw8134915037123179040 : True := trivial
theorem hd.tw845060206244984605 : True := trivial
theorem hd.tw17903497710992402801 : True := trivial
theorem hd.tw13929354066492186541 : True := trivial
theorem hd.tw2287590429203783052 : True := trivial
theorem hd.tw14462709497994964445 : True := trivial
theorem hd.tw2808349399557158395 : True := trivial
theorem hd.tw3919010098100093602 : True := trivial
theorem hd.tw6449127861642672459 : True := trivial
theorem hd.tw17948085552500728524 : True := trivial
theorem hd.tw5416991563250132298 : True := trivial
theorem hd.tw11389486352061984695 : True := trivial
theorem hd.tw1760603350576429475 : True := trivial
theorem hd.tw519851828213033955 : True := trivial
theorem hd.tw17975533764899295144 : True := trivial
theorem hd.tw16868993833207775613 : True := trivial
theorem hd.tw13321331477185743149 : True := trivial
theorem hd.tw876422389191416028 : True := trivial
theorem hd.tw15213948185873263833 : True := trivial
theorem hd.tw8458067239894703972 : True := trivial
theorem hd.tw11251137523995926341 : True := trivial
theorem hd.tw13770079208771991547 : True := trivial
theorem hd.tw17606422857730326317 : True := trivial
theorem hd.tw16684818696116721337 : True := trivial
theorem hd.tw9555612238305686254 : True := trivial
theorem hd.tw7492773218913965947 : True := trivial
theorem hd.tw13368278939475635651 : True := trivial
theorem hd.tw16029623286316568529 : True := trivial
theorem hd.tw9459050058782445324 : True := trivial
theorem hd.tw15344866539931968096 : True := trivial
theorem hd.tw10114362635825693787 : True := trivial
theorem hd.tw10738003575532504788 : True := trivial
theorem hd.tw6407587892757256292 : True := trivial
theorem hd.tw8184699220007379433 : True := trivial
theorem hd.tw12239354291974867115 : True := trivial
theorem hd.tw12521463284412890351 : True := trivial
theorem hd.tw4363365295628954845 : True := trivial
theorem hd.tw7031273417212677730 : True := trivial
theorem hd.tw8269573656231971908 : True := trivial
theorem hd.tw16157073509204512506 : True := trivial
theorem hd.tw5363116716869082496 : True := trivial
theorem hd.tw15946388913382835224 : True := trivial
theorem hd.tw16240987189780228909 : True := trivial
theorem hd.tw15673258824015622330 : True := trivial
theorem hd.tw11968265576560266318 : True := trivial
theorem hd.tw8273930003744585626 : True := trivial
theorem hd.tw18103420901670897651 : True := trivial
theorem hd.tw2783992281797965187 : True := trivial
theorem hd.tw15578025631644234493 : True := trivial
theorem hd.tw7525542149764818722 : True := trivial
theorem hd.tw3410444493855829464 : True := trivial
theorem hd.tw5549315172176941698 : True := trivial
theorem hd.tw1603739661141634737 : True := trivial
theorem hd.tw6547078798241139092 : True := trivial
theorem hd.tw9533747618267967006 : True := trivial
theorem hd.tw1476953355023367494 : True := trivial
theorem hd.tw7296583596125217682 : True := trivial
theorem hd.tw10678649693572172417 : True := trivial
theorem hd.tw12268275109542032366 : True := trivial
theorem hd.tw14478148883734587675 : True := trivial
theorem hd.tw11433540921409167945 : True := trivial
theorem hd.tw541196102884509978 : True := trivial
theorem hd.tw18264374347568628810 : True := trivial
theorem hd.tw4971549296188076032 : True := trivial
theorem hd.tw7289634563603522867 : True := trivial
theorem hd.tw1792636949448641307 : True := trivial
theorem hd.tw17377529257436501650 : True := trivial
theorem hd.tw16950478197175331994 : True := trivial
theorem hd.tw12459740579856956213 : True := trivial
theorem hd.tw17001982702790524580 : True := trivial
theorem hd.tw6184460063843016694 : True := trivial
theorem hd.tw15610959940260225430 : True := trivial
theorem hd.tw6320253292602491972 : True := trivial
theorem hd.tw1147470481896660410 : True := trivial
theorem hd.tw11162318198679636149 : True := trivial
theorem hd.tw7578210074245671484 : True := trivial
theorem hd.tw4702841417184801058 : True := trivial
theorem hd.tw2739504486584576224 : True := trivial
theorem hd.tw15651613401221246523 : True := trivial
theorem hd.tw11136197038861592535 : True := trivial
theorem hd.tw18293732401869909652 : True := trivial
theorem hd.tw7865762390884039853 : True := trivial
theorem hd.tw15948780112781908787 : True := trivial
theorem hd.tw9449672872311958731 : True := trivial
theorem hd.tw11151547217846952531 : True := trivial
theorem hd.tw5734208982337998757 : True := trivial
theorem hd.tw4788038989552484473 : True := trivial
theorem hd.tw1241404454085649124 : True := trivial
theorem hd.tw13532847315355080253 : True := trivial
theorem hd.tw14194692369981509116 : True := trivial
theorem hd.tw26425463804135960 : True := trivial
theorem hd.tw17902569758825723728 : True := trivial
theorem hd.tw12629568148972539762 : True := trivial
theorem hd.tw5283464899586487735 : True := trivial
theorem hd.tw876933089483189297 : True := trivial
theorem hd.tw4654797750381630734 : True := trivial
theorem hd.tw10264135568141901301 : True := trivial
theorem hd.tw8228950375871286339 : True := trivial
theorem hd.tw16064382804478563927 : True := trivial
theorem hd.tw14667805832236412624 : True := trivial
theorem hd.tw4068527845204499245 : True := trivial
theorem hd.tw12337632362937886050 : True := trivial
theorem hd.tw11283319371284918911 : True := trivial
theorem hd.tw10424393626065333798 : True := trivial
theorem hd.tw6438293893037913957 : True := trivial
theorem hd.tw12023040214023829324 : True := trivial
set_option Elab.async true in
theorem hd : True := by
  clear hd
  refine (?f2 : (fun {T : Prop} (_ : T) => True) ?hcm)
  refine (?f3 : (fun (_ : PySem.Challenge.rw_sa0383_01.Holds) => True) (by (w_on; o_law; as_aux_lemma => (k_head; (case hw => w_witness2); exact ?hcm))))
  exact trivial
set_option Elab.async false
theorem fill_head (w : World) (h₀ : Heap) (X : (hd.heap_1_39 w.params).In h₀) : (hd.heap_1_39 w.params).In h₀ ∧ PySem.Challenge.rw_sa0383_01 = PySem.Challenge.rw_sa0383_01 := by w_top off; k_fill; exact ⟨X, rfl⟩
section
noncomputable abbrev prog : Program := PySem.Challenge.rw_sa0383_01.prog

/-- the frame: what stood, but for the names that the loop stores -/
def upd (ns : List Str) (u m : Str → Option Value) : Str → Option Value := fun y => if ns.contains y then u y else m y
theorem fr_upd {h₀ h : Heap} {L : Addr} {ns : List Str} {m m' : Str → Option Value} (F : Fr h₀ L h m') (e : ∀ y, ns.contains y = false → m' y = m y) : Fr h₀ L h (upd ns m' m) := by
  have q : upd ns m' m = m' := by
    funext y
    unfold upd
    cases hy : ns.contains y with
    | true => simp
    | false => simp [e y hy]
  rw [q]; exact F
theorem fr_put {h₀ h : Heap} {L : Addr} {m : Str → Option Value} {x : Str} {v : Value} (F : Fr h₀ L h m) (e : m x = some v) : Fr h₀ L h (fun y => if y = x then some v else m y) := by
  have q : (fun y => if y = x then some v else m y) = m := by
    funext y
    by_cases hy : y = x
    · rw [if_pos hy, hy, e]
    · rw [if_neg hy]
  rw [q]; exact F

/-- the end of a turn: the frame, the ledger (its addresses as they were), the word -/
def KEnd (h₀ : Heap) (L : Addr) (ns : List Str) (m : Str → Option Value) (own : List (Addr × Obj)) (adr : List Addr) (J : (Str → Option Value) → List (Addr × Obj) → Prop) (s₁ s₂ : Shared) : Prop :=
  ∃ h' tk m' news', s₂ = { s₁ with heap := h', toks := tk } ∧ Fr h₀ L h' m' ∧ News h₀ L h' (own ++ news') ∧ news'.map (·.1) = adr ∧ (∀ y, ns.contains y = false → m' y = m y) ∧ J m' news'
/-- the end of a while's turn -/
def WEnd (h₀ : Heap) (L : Addr) (ns : List Str) (m : Str → Option Value) (J : Nat → (Str → Option Value) → List (Addr × Obj) → Prop) (n : Nat) (s₁ s₂ : Shared) : Prop :=
  ∃ h' tk m' news' n', s₂ = { s₁ with heap := h', toks := tk } ∧ Fr h₀ L h' m' ∧ News h₀ L h' news' ∧ n' < n ∧ (∀ y, ns.contains y = false → m' y = m y) ∧ J n' m' news'

section
variable {prog : Program} {w : World} {A : Around} {E : Value → Shared → Prop} {s : Shared} {env : Env} {h₀ : Heap} {target : Expr} {body : List Stmt} {Q : Flow → Shared → Prop}

theorem while_inv {L : Addr} {test : Expr} {pos : Pos} {m : Str → Option Value} {news : List (Addr × Obj)} (ns : List Str) (J : Nat → (Str → Option Value) → List (Addr × Obj) → Prop) {n₀ : Nat}
    (F : Fr h₀ L s.heap m) (N : News h₀ L s.heap news) (h0 : J n₀ m news)
    (turn : ∀ n u news₁ h tk, J n u news₁ → Fr h₀ L h (upd ns u m) → News h₀ L h news₁ →
      wpAny (model prog w) A (isTrue test env (eval test env)) (fun b s₂ =>
        if b = true then wpAny (model prog w) A (execs body env) (fun f s₃ => match f with
          | .ret v => Q (.ret v) s₃
          | .brk => Q .next s₃
          | _ => WEnd h₀ L ns m J n s s₃) E s₂ else Q .next s₂) E { s with heap := h, toks := tk })
    (hE : PassesOwn (model prog w) A env E := by passes_own) :
    wpAny (model prog w) A (exec (.While test body [] pos) env) Q E s := by
  refine While_inv2 (fun n m' nx => (∀ y, ns.contains y = false → m' y = m y) ∧ J n m' nx) F N ⟨fun _ _ => rfl, h0⟩ ?_ hE
  rintro n m₁ nx h tk F₁ N₁ ⟨hm, hJ⟩
  refine wpAny_mono (turn n m₁ nx h tk hJ (fr_upd F₁ hm) N₁) (fun b s₂ p => ?_) fun _ _ x => x
  cases b with
  | false => simpa using p
  | true =>
    simp only [if_true] at p ⊢
    refine wpAny_mono p (fun f s₃ q => ?_) fun _ _ x => x
    cases f with
    | ret v => exact q
    | brk => exact q
    | next =>
      obtain ⟨h', tk', m', news', n', rfl, F', N', hn, hm', hj⟩ := q
      exact ⟨h', tk', m', news', n', rfl, F', N', hn, hm', hj⟩
    | cont =>
      obtain ⟨h', tk', m', news', n', rfl, F', N', hn, hm', hj⟩ := q
      exact ⟨h', tk', m', news', n', rfl, F', N', hn, hm', hj⟩

theorem turns_inv {I : Addr} {fp wr : List Addr} {n : Nat} {P Md : Nat → Value → Heap → Prop} {St : Nat → Heap → Prop} {m : Str → Option Value} {news : List (Addr × Obj)} (ns : List Str)
    (W : KTurns prog w A target I fp wr n P Md St) (hLf : env.locals ∉ fp) (hwr : ∀ b ∈ wr, h₀.get? b = none) (hnw : ∀ p ∈ news, p.1 ∉ wr) (hst : St 0 s.heap) (F : Fr h₀ env.locals s.heap m) (N : News h₀ env.locals s.heap news)
    (J : Nat → (Str → Option Value) → List (Addr × Obj) → Prop) (h0 : J 0 m news)
    (turn : ∀ i v u news₁ h tk own, i < n → P i v h → J i u news₁ → (∀ p ∈ own, p.1 ∈ fp) → Fr h₀ env.locals h (upd ns u m) → News h₀ env.locals h (own ++ news₁) →
      wpAny (model prog w) A (assign target env v) (fun _ s₃ => wpAny (model prog w) A (execs body env) (fun f s₄ => match f with
        | .ret v => Q (.ret v) s₄
        | .brk => Q .next s₄
        | _ => KEnd h₀ env.locals ns m own (news.map (·.1)) (J (i + 1)) { s with heap := h, toks := tk } s₄) E s₃) E { s with heap := h, toks := tk })
    (done : ∀ u news' h tk, J n u news' → Fr h₀ env.locals h (upd ns u m) → News h₀ env.locals h news' → Q .next { s with heap := h, toks := tk }) :
    TurnsAt prog w A h₀ env target body Q E (.ref I) s := by
  refine ⟨I, fp, wr, n, P, Md, St, m, news, fun i m₁ news₁ => news₁.map (·.1) = news.map (·.1) ∧ (∀ y, ns.contains y = false → m₁ y = m y) ∧ J i m₁ news₁, rfl, W, hLf, hwr, hnw, hst, F, N, ⟨rfl, fun _ _ => rfl, h0⟩, ?_, ?_⟩
  · rintro i v m₁ news₁ h₁ tk₁ own hin hP ⟨hadr, hm, hJ⟩ _ hown _ _ _ F₁ N₁
    refine wpAny_mono (turn i v m₁ news₁ h₁ tk₁ own hin hP hJ hown (fr_upd F₁ hm) N₁) (fun _ s₂ h₂ => wpAny_mono h₂ (fun f s₃ p => ?_) fun _ _ e => e) fun _ _ e => e
    have fin : KEnd h₀ env.locals ns m own (news.map (·.1)) (J (i + 1)) { s with heap := h₁, toks := tk₁ } s₃ →
        LoopStepU h₀ env.locals wr own (fun m₁ news₁ => news₁.map (·.1) = news.map (·.1) ∧ (∀ y, ns.contains y = false → m₁ y = m y) ∧ J (i + 1) m₁ news₁) { s with heap := h₁, toks := tk₁ } .next s₃ := by
      rintro ⟨h', tk, m', news', rfl, F', N', ha, hm', hj⟩
      refine .intro F' N' (fun p hp hq => ?_) ⟨ha, hm', hj⟩
      have h1 : p.1 ∈ news'.map (·.1) := List.mem_map.mpr ⟨p, hp, rfl⟩
      rw [ha] at h1
      obtain ⟨q, hq1, hq2⟩ := List.mem_map.mp h1
      exact hnw q hq1 (by rw [hq2]; exact hq)
    cases f with
    | ret v => exact .ret p
    | brk => exact .brk p
    | next => exact .next (fin p)
    | cont => exact .cont (fin p)
  · rintro h' tk m' news' F' N' _ ⟨_, hm, hj⟩
    exact done m' news' h' tk hj (fr_upd F' hm) N'

/-- a loop over a list that stood before the frame's ledger (a table of the text) -/
theorem turns_list {l : Addr} {vs : List Value} {m : Str → Option Value} {news : List (Addr × Obj)} (ns : List Str)
    (hh : A.handled = none) (hl : h₀.IsList l vs.toArray) (F : Fr h₀ env.locals s.heap m) (N : News h₀ env.locals s.heap news)
    (J : Nat → (Str → Option Value) → List (Addr × Obj) → Prop) (h0 : J 0 m news)
    (turn : ∀ i v u news₁ h tk own, vs[i]? = some v → J i u news₁ → Fr h₀ env.locals h (upd ns u m) → News h₀ env.locals h (own ++ news₁) →
      wpAny (model prog w) A (assign target env v) (fun _ s₃ => wpAny (model prog w) A (execs body env) (fun f s₄ => match f with
        | .ret v => Q (.ret v) s₄
        | .brk => Q .next s₄
        | _ => KEnd h₀ env.locals ns m own (news.map (·.1)) (J (i + 1)) { s with heap := h, toks := tk } s₄) E s₃) E { s with heap := h, toks := tk })
    (done : ∀ u news' h tk, J vs.length u news' → Fr h₀ env.locals h (upd ns u m) → News h₀ env.locals h news' → Q .next { s with heap := h, toks := tk }) :
    wpAny (model prog w) A (pyIter (.ref l)) (fun it s₂ => TurnsAt prog w A h₀ env target body Q E it s₂) E s := by
  have hls : s.heap.IsList l vs.toArray := hl.at fun o e => F.keep l o e
  obtain ⟨ol, hol, _⟩ := id hl
  have hlt : l < h₀.objs.size := Heap.lt_size hol
  have hne : l ≠ s.heap.objs.size := Nat.ne_of_lt (Nat.lt_trans (Nat.lt_of_lt_of_le hlt F.above) F.ns.lt)
  refine wpAny_pyIter_list hls ?_
  refine turns_inv (s := { s with heap := _ }) ns (KTurns.ofWalks (Walks.list hh s.heap.objs.size l hne vs.toArray) fun i v s Q E st q => letGo_listiter st.1 q) ?_ ?_ ?_ ⟨⟨_, Heap.get?_push_size _ rfl, rfl, rfl⟩, hls.at fun o e => Heap.get?_push_of_some _ e⟩ (F.push _) (fun p hp => ⟨Heap.get?_push_of_some _ (N p hp).1, (N p hp).2⟩) J h0 ?_ ?_
  · intro hm
    rcases List.mem_cons.mp hm with e | hm
    · exact absurd F.ns.lt (e ▸ Nat.lt_irrefl _)
    · exact absurd (Nat.lt_of_lt_of_le hlt F.above) ((List.mem_singleton.mp hm) ▸ Nat.lt_irrefl _)
  · intro b hb
    rw [List.mem_singleton.mp hb]
    exact next_is_new F
  · intro p hp hI
    exact absurd (Heap.lt_size (N p hp).1) ((List.mem_singleton.mp hI) ▸ Nat.lt_irrefl _)
  · intro i v m₁ news₁ h tk own hi hP hJ _ F₁ N₁
    have hv : vs[i]? = some v := by
      have hP' : vs.toArray[i]? = some v := hP
      simpa using hP'
    exact turn i v m₁ news₁ h tk own hv hJ F₁ N₁
  · intro m' news' h tk hJ F' N'
    exact done m' news' h tk (by simpa using hJ) F' N'

/-- a loop over a tuple that stood before the frame's ledger (a table of the text) -/
theorem turns_tup {l : Addr} {vs : List Value} {m : Str → Option Value} {news : List (Addr × Obj)} (ns : List Str)
    (hh : A.handled = none) (hl : h₀.IsTuple l vs.toArray) (F : Fr h₀ env.locals s.heap m) (N : News h₀ env.locals s.heap news)
    (J : Nat → (Str → Option Value) → List (Addr × Obj) → Prop) (h0 : J 0 m news)
    (turn : ∀ i v u news₁ h tk own, vs[i]? = some v → J i u news₁ → Fr h₀ env.locals h (upd ns u m) → News h₀ env.locals h (own ++ news₁) →
      wpAny (model prog w) A (assign target env v) (fun _ s₃ => wpAny (model prog w) A (execs body env) (fun f s₄ => match f with
        | .ret v => Q (.ret v) s₄
        | .brk => Q .next s₄
        | _ => KEnd h₀ env.locals ns m own (news.map (·.1)) (J (i + 1)) { s with heap := h, toks := tk } s₄) E s₃) E { s with heap := h, toks := tk })
    (done : ∀ u news' h tk, J vs.length u news' → Fr h₀ env.locals h (upd ns u m) → News h₀ env.locals h news' → Q .next { s with heap := h, toks := tk }) :
    wpAny (model prog w) A (pyIter (.ref l)) (fun it s₂ => TurnsAt prog w A h₀ env target body Q E it s₂) E s := by
  have hls : s.heap.IsTuple l vs.toArray := hl.at fun o e => F.keep l o e
  obtain ⟨ol, hol, _⟩ := id hl
  have hlt : l < h₀.objs.size := Heap.lt_size hol
  have hne : l ≠ s.heap.objs.size := Nat.ne_of_lt (Nat.lt_trans (Nat.lt_of_lt_of_le hlt F.above) F.ns.lt)
  refine wpAny_pyIter_tuple hls ?_
  refine turns_inv (s := { s with heap := _ }) ns (KTurns.ofWalks (Walks.tuple hh s.heap.objs.size l hne vs.toArray) fun i v s Q E st q => letGo_tupleiter st.1 q) ?_ ?_ ?_ ⟨⟨_, Heap.get?_push_size _ rfl, rfl, rfl⟩, hls.at fun o e => Heap.get?_push_of_some _ e⟩ (F.push _) (fun p hp => ⟨Heap.get?_push_of_some _ (N p hp).1, (N p hp).2⟩) J h0 ?_ ?_
  · intro hm
    rcases List.mem_cons.mp hm with e | hm
    · exact absurd F.ns.lt (e ▸ Nat.lt_irrefl _)
    · exact absurd (Nat.lt_of_lt_of_le hlt F.above) ((List.mem_singleton.mp hm) ▸ Nat.lt_irrefl _)
  · intro b hb
    rw [List.mem_singleton.mp hb]
    exact next_is_new F
  · intro p hp hI
    exact absurd (Heap.lt_size (N p hp).1) ((List.mem_singleton.mp hI) ▸ Nat.lt_irrefl _)
  · intro i v m₁ news₁ h tk own hi hP hJ _ F₁ N₁
    have hv : vs[i]? = some v := by
      have hP' : vs.toArray[i]? = some v := hP
      simpa using hP'
    exact turn i v m₁ news₁ h tk own hv hJ F₁ N₁
  · intro m' news' h tk hJ F' N'
    exact done m' news' h tk (by simpa using hJ) F' N'

/-- a loop over a range -/
theorem turns_range {r : Addr} {a₀ b₀ c : Int} {t₀ u₀ v₀ : Tok} {n : Nat} {m : Str → Option Value} {news : List (Addr × Obj)} {x : Str} {px : Pos} (ns : List Str)
    (hh : A.handled = none) (hr : IsRange s.heap r a₀ b₀ c t₀ u₀ v₀) (hsmall : Builtin.Range.small a₀ b₀ c = true) (hn : Builtin.Range.rangeSize a₀ b₀ c = (n : Int)) (F : Fr h₀ env.locals s.heap m) (N : News h₀ env.locals s.heap news)
    (J : Nat → (Str → Option Value) → List (Addr × Obj) → Prop) (h0 : J 0 m news)
    (turn : ∀ (i : Nat) t u news₁ h tk own, i < n → J i u news₁ → Fr h₀ env.locals h (upd ns u m) → News h₀ env.locals h (own ++ news₁) →
      wpAny (model prog w) A (assign (.Name x px) env (.int (a₀ + i * c) t)) (fun _ s₃ => wpAny (model prog w) A (execs body env) (fun f s₄ => match f with
        | .ret v => Q (.ret v) s₄
        | .brk => Q .next s₄
        | _ => KEnd h₀ env.locals ns m own (news.map (·.1)) (J (i + 1)) { s with heap := h, toks := tk } s₄) E s₃) E { s with heap := h, toks := tk })
    (done : ∀ u news' h tk, J n u news' → Fr h₀ env.locals h (upd ns u m) → News h₀ env.locals h news' → Q .next { s with heap := h, toks := tk }) :
    wpAny (model prog w) A (pyIter (.ref r)) (fun it s₂ => TurnsAt prog w A h₀ env (.Name x px) body Q E it s₂) E s := by
  refine wpAny_pyIter_range hr hsmall ?_
  have W : Walks prog w A s.heap.objs.size [s.heap.objs.size] [s.heap.objs.size] n (fun i v => i < n ∧ ∃ t, v = .int (a₀ + i * c) t)
      (fun i h => IsRangeIter h s.heap.objs.size (a₀ + (i : Nat) * c) ((n : Int) - (i : Nat)) c) := (Walks.range hh _ a₀ c n).bound
  refine turns_inv (s := { s with heap := _ }) ns (KTurns.ofWalks W fun i v s Q E st q => ?_) ?_ ?_ ?_ (by show IsRangeIter _ _ _ _ _; rw [hn]; simpa using Heap.get?_push_size _ rfl) (F.push _) (fun p hp => ⟨Heap.get?_push_of_some _ (N p hp).1, (N p hp).2⟩) J h0 ?_ ?_
  · exact wpAny_pure q
  · intro hm
    exact absurd F.ns.lt ((List.mem_singleton.mp hm) ▸ Nat.lt_irrefl _)
  · intro b hb
    rw [List.mem_singleton.mp hb]
    exact next_is_new F
  · intro p hp hI
    exact absurd (Heap.lt_size (N p hp).1) ((List.mem_singleton.mp hI) ▸ Nat.lt_irrefl _)
  · rintro i v m₁ news₁ h tk own hi ⟨_, t, rfl⟩ hJ _ F₁ N₁
    exact turn i t m₁ news₁ h tk own hi hJ F₁ N₁
  · intro m' news' h tk hJ F' N'
    exact done m' news' h tk hJ F' N'

/-- enumerate of a text, turn by turn -/
theorem pair_inv {α : Type} {K : ItemKind α} {as : List α} {xv : Value} {xi xc : Str} {m : Str → Option Value} {news : List (Addr × Obj)} (ns : List Str) (S : PairSrc prog w A E h₀ env K as xv s m news)
    (J : Nat → (Str → Option Value) → List (Addr × Obj) → Prop) (h0 : J 0 m news)
    (turn : ∀ (i : Nat) a t v u news₁ h tk own, as[i]? = some a → K.is a v → J i u news₁ → Fr h₀ env.locals h (fun y => if y = xc then some v else if y = xi then some (.int i t) else upd ns u m y) → News h₀ env.locals h (own ++ news₁) →
      wpAny (model prog w) A (execs body env) (fun f s₄ => match f with
        | .ret v => Q (.ret v) s₄
        | .brk => Q .next s₄
        | _ => KEnd h₀ env.locals ns m own (news.map (·.1)) (J (i + 1)) { s with heap := h, toks := tk } s₄) E { s with heap := h, toks := tk })
    (done : ∀ u news' h tk, J as.length u news' → Fr h₀ env.locals h (upd ns u m) → News h₀ env.locals h news' → Q .next { s with heap := h, toks := tk }) :
    wpAny (model prog w) A (pyIter xv) (fun it s₂ => PairAt3 prog w A h₀ env xi xc body Q E it s₂) E s := by
  have up : ∀ {m₁ : Str → Option Value}, (∀ y, ns.contains y = false → m₁ y = m y) → upd ns m₁ m = m₁ := fun {m₁} e => by
    funext y
    unfold upd
    cases hy : ns.contains y with
    | true => simp
    | false => simp [e y hy]
  refine S xi xc body Q (fun i m₁ news₁ => (∀ y, ns.contains y = false → m₁ y = m y) ∧ J i m₁ news₁) ⟨fun _ _ => rfl, h0⟩ ?_ fun h' tk m' news' F' N' _ hJ => done m' news' h' tk hJ.2 (fr_upd F' hJ.1) N'
  rintro i a t v m₁ news₁ s₁ own ⟨h, tk, rfl⟩ ha hk ⟨hm, hJ⟩ hadr _ F₁ N₁
  refine wpAny_mono (turn i a t v m₁ news₁ h tk own ha hk hJ (by rw [up hm]; exact F₁) N₁) (fun f s₃ p => ?_) fun _ _ e => e
  have fin : KEnd h₀ env.locals ns m own (news.map (·.1)) (J (i + 1)) { s with heap := h, toks := tk } s₃ → LoopStep2 h₀ env.locals own news₁ (fun m₁ news₁ => (∀ y, ns.contains y = false → m₁ y = m y) ∧ J (i + 1) m₁ news₁) { s with heap := h, toks := tk } .next s₃ := by
    rintro ⟨h', tk', m', news', rfl, F', N', ha, hm', hj⟩
    exact ⟨rfl, h', tk', m', news', rfl, F', N', ha.trans hadr.symm, hm', hj⟩
  cases f with
  | ret v => exact p
  | brk => exact p
  | next => exact fin p
  | cont => exact fin p
/-- a loop over a text's signs -/
theorem turns_str {x : Str} {tx : Tok} {m : Str → Option Value} {news : List (Addr × Obj)} {y : Str} {py : Pos} (ns : List Str)
    (hh : A.handled = none) (F : Fr h₀ env.locals s.heap m) (N : News h₀ env.locals s.heap news)
    (J : Nat → (Str → Option Value) → List (Addr × Obj) → Prop) (h0 : J 0 m news)
    (turn : ∀ (i : Nat) c t u news₁ h tk own, x.cps[i]? = some c → J i u news₁ → Fr h₀ env.locals h (upd ns u m) → News h₀ env.locals h (own ++ news₁) →
      wpAny (model prog w) A (assign (.Name y py) env (.str ⟨#[c]⟩ t)) (fun _ s₃ => wpAny (model prog w) A (execs body env) (fun f s₄ => match f with
        | .ret v => Q (.ret v) s₄
        | .brk => Q .next s₄
        | _ => KEnd h₀ env.locals ns m own (news.map (·.1)) (J (i + 1)) { s with heap := h, toks := tk } s₄) E s₃) E { s with heap := h, toks := tk })
    (done : ∀ u news' h tk, J x.cps.size u news' → Fr h₀ env.locals h (upd ns u m) → News h₀ env.locals h news' → Q .next { s with heap := h, toks := tk }) :
    wpAny (model prog w) A (pyIter (.str x tx)) (fun it s₂ => TurnsAt prog w A h₀ env (.Name y py) body Q E it s₂) E s := by
  refine wpAny_pyIter_str fun o St hW hst => ?_
  refine turns_inv (s := { s with heap := _ }) ns (KTurns.ofWalks (hW A hh) fun i v s Q E st q => wpAny_pure q) ?_ ?_ ?_ hst (F.push _) (fun p hp => ⟨Heap.get?_push_of_some _ (N p hp).1, (N p hp).2⟩) J h0 ?_ ?_
  · intro hm
    exact absurd F.ns.lt ((List.mem_singleton.mp hm) ▸ Nat.lt_irrefl _)
  · intro b hb
    rw [List.mem_singleton.mp hb]
    exact next_is_new F
  · intro p hp hI
    exact absurd (Heap.lt_size (N p hp).1) ((List.mem_singleton.mp hI) ▸ Nat.lt_irrefl _)
  · rintro i v u news₁ h tk own hi ⟨c, t, hc, rfl⟩ hJ _ F₁ N₁
    exact turn i c t u news₁ h tk own hc hJ F₁ N₁
  · intro m' news' h tk hJ F' N'
    exact done m' news' h tk hJ F' N'
end
end
section
/-- the end of a turn of a loop whose ledger may grow: `I` the iterator's address -/
def KEndG (h₀ : Heap) (L : Addr) (ns : List Str) (m : Str → Option Value) (own : List (Addr × Obj)) (I : Addr) (J : (Str → Option Value) → List (Addr × Obj) → Prop) (s₁ s₂ : Shared) : Prop :=
  ∃ h' tk m' news', s₂ = { s₁ with heap := h', toks := tk } ∧ Fr h₀ L h' m' ∧ News h₀ L h' (own ++ news') ∧ (∀ p ∈ news', p.1 ≠ I) ∧ (∀ y, ns.contains y = false → m' y = m y) ∧ J m' news'
section
variable {prog : Program} {w : World} {A : Around} {E : Value → Shared → Prop} {s : Shared} {env : Env} {h₀ : Heap} {target : Expr} {body : List Stmt} {Q : Flow → Shared → Prop}
/-- a loop over a tuple or a list that stands; the ledger may grow -/
theorem turns_G {I l : Addr} {n : Nat} {P Md : Nat → Value → Heap → Prop} {St : Nat → Heap → Prop} {m : Str → Option Value} {news : List (Addr × Obj)} (ns : List Str)
    (W : KTurns prog w A target I [I, l] [I] n P Md St) (hI : ∀ i h, St i h → ∃ o, h.get? I = some o) (hLf : env.locals ∉ [I, l]) (hwr : h₀.get? I = none) (hnw : ∀ p ∈ news, p.1 ≠ I) (hst : St 0 s.heap) (F : Fr h₀ env.locals s.heap m) (N : News h₀ env.locals s.heap news)
    (J : Nat → (Str → Option Value) → List (Addr × Obj) → Prop) (h0 : J 0 m news)
    (turn : ∀ i v u news₁ h tk own, i < n → P i v h → J i u news₁ → (∀ p ∈ news₁, p.1 ≠ I) → (∃ o, (I, o) ∈ own) → (∀ p ∈ own, p.1 = I ∨ p.1 = l) → Fr h₀ env.locals h (upd ns u m) → News h₀ env.locals h (own ++ news₁) →
      wpAny (model prog w) A (assign target env v) (fun _ s₃ => wpAny (model prog w) A (execs body env) (fun f s₄ => match f with
        | .ret v => Q (.ret v) s₄
        | .brk => Q .next s₄
        | _ => KEndG h₀ env.locals ns m own I (J (i + 1)) { s with heap := h, toks := tk } s₄) E s₃) E { s with heap := h, toks := tk })
    (done : ∀ u news' h tk, J n u news' → Fr h₀ env.locals h (upd ns u m) → News h₀ env.locals h news' → Q .next { s with heap := h, toks := tk }) :
    TurnsAt prog w A h₀ env target body Q E (.ref I) s := by
  refine ⟨I, [I, l], [I], n, P, Md, St, m, news, fun i m₁ news₁ => (∀ y, ns.contains y = false → m₁ y = m y) ∧ J i m₁ news₁, rfl, W, hLf, fun b hb => by rw [List.mem_singleton.mp hb]; exact hwr, fun p hp hq => hnw p hp (List.mem_singleton.mp hq), hst, F, N, ⟨fun _ _ => rfl, h0⟩, ?_, ?_⟩
  · rintro i v m₁ news₁ h₁ tk₁ own hin hP ⟨hm, hJ⟩ hn1 hown _ hall hst₁ F₁ N₁
    obtain ⟨o, ho⟩ := hI _ _ hst₁
    refine wpAny_mono (turn i v m₁ news₁ h₁ tk₁ own hin hP hJ (fun p hp e => hn1 p hp (by rw [e]; exact List.mem_singleton.mpr rfl)) ⟨o, hall I (by simp) hwr o ho⟩ (fun p hp => by simpa using hown p hp) (fr_upd F₁ hm) N₁) (fun _ s₂ h₂ => wpAny_mono h₂ (fun f s₃ p => ?_) fun _ _ e => e) fun _ _ e => e
    have fin : KEndG h₀ env.locals ns m own I (J (i + 1)) { s with heap := h₁, toks := tk₁ } s₃ →
        LoopStepU h₀ env.locals [I] own (fun m₁ news₁ => (∀ y, ns.contains y = false → m₁ y = m y) ∧ J (i + 1) m₁ news₁) { s with heap := h₁, toks := tk₁ } .next s₃ := by
      rintro ⟨h', tk, m', news', rfl, F', N', ha, hm', hj⟩
      exact .intro F' N' (fun p hp hq => ha p hp (List.mem_singleton.mp hq)) ⟨hm', hj⟩
    cases f with
    | ret v => exact .ret p
    | brk => exact .brk p
    | next => exact .next (fin p)
    | cont => exact .cont (fin p)
  · rintro h' tk m' news' F' N' _ ⟨hm, hj⟩
    exact done m' news' h' tk hj (fr_upd F' hm) N'

theorem turns_tupG {l : Addr} {vs : List Value} {m : Str → Option Value} {news : List (Addr × Obj)} (ns : List Str)
    (hh : A.handled = none) (hl : s.heap.IsTuple l vs.toArray) (hlL : env.locals ≠ l) (F : Fr h₀ env.locals s.heap m) (N : News h₀ env.locals s.heap news)
    (J : Nat → (Str → Option Value) → List (Addr × Obj) → Prop) (h0 : J 0 m news)
    (turn : ∀ i v u news₁ h tk own I, vs[i]? = some v → J i u news₁ → (∀ p ∈ news₁, p.1 ≠ I) → (∃ o, (I, o) ∈ own) → (∀ p ∈ own, p.1 = I ∨ p.1 = l) → Fr h₀ env.locals h (upd ns u m) → News h₀ env.locals h (own ++ news₁) →
      wpAny (model prog w) A (assign target env v) (fun _ s₃ => wpAny (model prog w) A (execs body env) (fun f s₄ => match f with
        | .ret v => Q (.ret v) s₄
        | .brk => Q .next s₄
        | _ => KEndG h₀ env.locals ns m own I (J (i + 1)) { s with heap := h, toks := tk } s₄) E s₃) E { s with heap := h, toks := tk })
    (done : ∀ u news' h tk, J vs.length u news' → Fr h₀ env.locals h (upd ns u m) → News h₀ env.locals h news' → Q .next { s with heap := h, toks := tk }) :
    wpAny (model prog w) A (pyIter (.ref l)) (fun it s₂ => TurnsAt prog w A h₀ env target body Q E it s₂) E s := by
  obtain ⟨ol, hol, _⟩ := id hl
  have hlt : l < s.heap.objs.size := Heap.lt_size hol
  refine wpAny_pyIter_tuple hl ?_
  refine turns_G (l := l) (s := { s with heap := _ }) ns (KTurns.ofWalks (Walks.tuple hh s.heap.objs.size l (Nat.ne_of_lt hlt) vs.toArray) fun i v s Q E st q => letGo_tupleiter st.1 q) (fun i h st => ⟨_, st.1.choose_spec.1⟩) ?_ ?_ ?_ ⟨⟨_, Heap.get?_push_size _ rfl, rfl, rfl⟩, hl.at fun o e => Heap.get?_push_of_some _ e⟩ (F.push _) (fun p hp => ⟨Heap.get?_push_of_some _ (N p hp).1, (N p hp).2⟩) J h0 ?_ ?_
  · intro hm
    rcases List.mem_cons.mp hm with e | hm
    · exact absurd F.ns.lt (e ▸ Nat.lt_irrefl _)
    · exact hlL (List.mem_singleton.mp hm)
  · exact next_is_new F
  · intro p hp hI
    exact absurd (Heap.lt_size (N p hp).1) (hI ▸ Nat.lt_irrefl _)
  · intro i v m₁ news₁ h tk own hi hP
    have hv : vs[i]? = some v := by
      have hP' : vs.toArray[i]? = some v := hP
      simpa using hP'
    exact turn i v m₁ news₁ h tk own _ hv
  · intro m' news' h tk hJ F' N'
    exact done m' news' h tk (by simpa using hJ) F' N'

theorem turns_listG {l : Addr} {vs : List Value} {m : Str → Option Value} {news : List (Addr × Obj)} (ns : List Str)
    (hh : A.handled = none) (hl : s.heap.IsList l vs.toArray) (hlL : env.locals ≠ l) (F : Fr h₀ env.locals s.heap m) (N : News h₀ env.locals s.heap news)
    (J : Nat → (Str → Option Value) → List (Addr × Obj) → Prop) (h0 : J 0 m news)
    (turn : ∀ i v u news₁ h tk own I, vs[i]? = some v → J i u news₁ → (∀ p ∈ news₁, p.1 ≠ I) → (∃ o, (I, o) ∈ own) → (∀ p ∈ own, p.1 = I ∨ p.1 = l) → Fr h₀ env.locals h (upd ns u m) → News h₀ env.locals h (own ++ news₁) →
      wpAny (model prog w) A (assign target env v) (fun _ s₃ => wpAny (model prog w) A (execs body env) (fun f s₄ => match f with
        | .ret v => Q (.ret v) s₄
        | .brk => Q .next s₄
        | _ => KEndG h₀ env.locals ns m own I (J (i + 1)) { s with heap := h, toks := tk } s₄) E s₃) E { s with heap := h, toks := tk })
    (done : ∀ u news' h tk, J vs.length u news' → Fr h₀ env.locals h (upd ns u m) → News h₀ env.locals h news' → Q .next { s with heap := h, toks := tk }) :
    wpAny (model prog w) A (pyIter (.ref l)) (fun it s₂ => TurnsAt prog w A h₀ env target body Q E it s₂) E s := by
  obtain ⟨ol, hol, _⟩ := id hl
  have hlt : l < s.heap.objs.size := Heap.lt_size hol
  refine wpAny_pyIter_list hl ?_
  refine turns_G (l := l) (s := { s with heap := _ }) ns (KTurns.ofWalks (Walks.list hh s.heap.objs.size l (Nat.ne_of_lt hlt) vs.toArray) fun i v s Q E st q => letGo_listiter st.1 q) (fun i h st => ⟨_, st.1.choose_spec.1⟩) ?_ ?_ ?_ ⟨⟨_, Heap.get?_push_size _ rfl, rfl, rfl⟩, hl.at fun o e => Heap.get?_push_of_some _ e⟩ (F.push _) (fun p hp => ⟨Heap.get?_push_of_some _ (N p hp).1, (N p hp).2⟩) J h0 ?_ ?_
  · intro hm
    rcases List.mem_cons.mp hm with e | hm
    · exact absurd F.ns.lt (e ▸ Nat.lt_irrefl _)
    · exact hlL (List.mem_singleton.mp hm)
  · exact next_is_new F
  · intro p hp hI
    exact absurd (Heap.lt_size (N p hp).1) (hI ▸ Nat.lt_irrefl _)
  · intro i v m₁ news₁ h tk own hi hP
    have hv : vs[i]? = some v := by
      have hP' : vs.toArray[i]? = some v := hP
      simpa using hP'
    exact turn i v m₁ news₁ h tk own _ hv
  · intro m' news' h tk hJ F' N'
    exact done m' news' h tk (by simpa using hJ) F' N'
end
end
section
open Sem (wp)
open Builtin
theorem noFill_tuple_mul : fillsNumberSlot (.type "tuple") "mul" = pure false :=
  PySem.fillsNumberSlot_seq (id := "tuple.__mul__") (r := some (.builtin "tuple.__rmul__")) F.slot_tuple_mul.lookup (by decide +kernel) F.slot_tuple_rmul.lookup (by decide +kernel)
theorem repeat_tuple : seqRepeat? (.type "tuple") = pure (some (.builtin "tuple.__mul__")) := by
  unfold seqRepeat?
  rw [PySem.seqSlot_of (T := "tuple") (name := "__mul__") (id := "tuple.__mul__") F.slot_tuple_mul.lookup (by decide +kernel), PySem.seqSlot_of (T := "tuple") (name := "__rmul__") (id := "tuple.__rmul__") F.slot_tuple_rmul.lookup (by decide +kernel)]
  rfl
theorem int_rmul_tuple (a : Int) (t : Tok) (l : Addr) (items : Array Value) (n : Nat) :
    Meets (Builtin.«int.__rmul__» ⟨[.int a t, .ref l], []⟩) (fun _ R s => s.heap.get? l = some { cls := .type "tuple", dict := none, data := .seq items n, slots := #[] } ∧ R (.ok (.ret Value.notImplemented)) s) :=
  .of_wp fun prog w A R s h => by obtain ⟨hp, g, d, tk, os⟩ := s; obtain ⟨hl, h⟩ := h; wp_walk; exact ⟨_, rfl, h⟩
theorem tuple_mul_0 (l : Addr) (v : Value) (n : Nat) (u : Tok) :
    Meets (Builtin.«tuple.__mul__» ⟨[.ref l, .int 0 u], []⟩) (fun _ R s => s.heap.get? l = some { cls := .type "tuple", dict := none, data := .seq #[v] n, slots := #[] } ∧ R (.ok (.ret (Value.ref s.heap.objs.size))) { s with heap := s.heap.push { cls := Value.type "tuple", data := Data.seq #[] } }) :=
  .of_wp fun prog w A R s h => by
    obtain ⟨hp, g, d, tk, os⟩ := s; obtain ⟨hl, h⟩ := h
    have f1 := PySem.AutoSeq1.idx_int; have f2 := PySem.AutoSeq1.sub_tuple_tuple
    wp_walk using wpAny_loadPart' hl
    exact ⟨_, rfl, h⟩
theorem tuple_mul_1 (l : Addr) (v : Value) (n : Nat) (u : Tok) :
    Meets (Builtin.«tuple.__mul__» ⟨[.ref l, .int 1 u], []⟩) (fun _ R s => s.heap.get? l = some { cls := .type "tuple", dict := none, data := .seq #[v] n, slots := #[] } ∧ R (.ok (.ret (Value.ref l))) s) :=
  .of_wp fun prog w A R s h => by
    obtain ⟨hp, g, d, tk, os⟩ := s; obtain ⟨hl, h⟩ := h
    have f1 := PySem.AutoSeq1.idx_int; have f2 := PySem.AutoSeq1.sub_tuple_tuple
    wp_walk using wpAny_loadPart' hl
    exact ⟨_, rfl, h⟩
section
variable {prog : Program} {w : World} {A : Around} {E : Value → Shared → Prop} {s : Shared} {h₀ : Heap} {L : Addr} {m : Str → Option Value} {news : List (Addr × Obj)}
theorem tup_mul0 {l : Addr} {v : Value} {u : Tok} {Q : Value → Shared → Prop} (Fm : Fr h₀ L s.heap m) (N : News h₀ L s.heap news)
    (hl : (l, ({ cls := .type "tuple", data := .seq #[v] } : Obj)) ∈ news)
    (h : ∀ (D : Addr) h', AllLt D news → Fr h₀ L h' m → News h₀ L h' ((D, { cls := .type "tuple", data := .seq #[] }) :: news) → Q (.ref D) { s with heap := h' }) :
    wpAny (model prog w) A (binaryOp .Mult (.ref l) (.int 0 u)) Q E s :=
  have hl := (N _ hl).1
  wpAny_binaryOp_repeat_ref (T := "tuple") (U := "int") (by decide) ⟨_, hl, rfl⟩ (fun s' => typeIs_int s' 0 u) noFill_tuple_mul F.fills_int_mul F.slot_int_rmul repeat_tuple F.slot_int_index.lookup
    (call_meets F.slot_int_rmul (typeIs_int s 0 u) F.entry_int_rmul (F.args_int_rmul_2 _ _) (int_rmul_tuple 0 u l _ _)
      ⟨hl, rfl, ⟨_, hl, rfl⟩, call_meets F.slot_tuple_mul ⟨_, hl, rfl⟩ F.entry_tuple_mul (F.args_tuple_mul_2 _ _)
        (tuple_mul_0 l v _ u)
        ⟨hl, h _ _ (allLt_of fun p hp => Heap.lt_size (N p hp).1) (Fm.push _) (News.push Fm N _)⟩⟩)
theorem tup_mul1 {l : Addr} {v : Value} {u : Tok} {k : Int} {Q : Value → Shared → Prop} (N : News h₀ L s.heap news)
    (hl : (l, ({ cls := .type "tuple", data := .seq #[v] } : Obj)) ∈ news)
    (hk : k = 1) (h : Q (.ref l) s) :
    wpAny (model prog w) A (binaryOp .Mult (.ref l) (.int k u)) Q E s := by
  subst hk
  exact
  have hl := (N _ hl).1
  wpAny_binaryOp_repeat_ref (T := "tuple") (U := "int") (by decide) ⟨_, hl, rfl⟩ (fun s' => typeIs_int s' 1 u) noFill_tuple_mul F.fills_int_mul F.slot_int_rmul repeat_tuple F.slot_int_index.lookup
    (call_meets F.slot_int_rmul (typeIs_int s 1 u) F.entry_int_rmul (F.args_int_rmul_2 _ _) (int_rmul_tuple 1 u l _ _)
      ⟨hl, rfl, ⟨_, hl, rfl⟩, call_meets F.slot_tuple_mul ⟨_, hl, rfl⟩ F.entry_tuple_mul (F.args_tuple_mul_2 _ _)
        (tuple_mul_1 l v _ u)
        ⟨hl, h⟩⟩)
end
end
section
/-- a text by its signs' numbers -/
def S (l : List Nat) : Str := ⟨l.toArray⟩
theorem S_length (l : List Nat) : (S l).length = l.length := by simp [S, Str.length]
theorem S_toList (l : List Nat) : (S l).cps.toList = l := rfl
theorem S_of (x : Str) : S x.cps.toList = x := rfl
theorem S_inj {l l' : List Nat} (h : S l = S l') : l = l' := by
  have := congrArg (fun x : Str => x.cps.toList) h
  simpa [S] using this
theorem S_eq {l l' : List Nat} : (S l == S l') = decide (l = l') := by
  by_cases h : l = l'
  · subst h; simp
  · rw [decide_eq_false h, beq_eq_false_iff_ne]
    exact fun e => h (S_inj e)
theorem idx_clamp (a b n : Nat) : Builtin.Str.strSliceIndices (some (a : Int)) (some (b : Int)) 1 n = Builtin.Str.strSliceIndices (some ((min a n : Nat) : Int)) (some ((min b n : Nat) : Int)) 1 n := by
  have h1 : ¬ ((a : Int) < 0) := by omega
  have h2 : ¬ ((b : Int) < 0) := by omega
  have h3 : ¬ (((min a n : Nat) : Int) < 0) := by omega
  have h4 : ¬ (((min b n : Nat) : Int) < 0) := by omega
  have e1 : min (a : Int) (n : Int) = min (((min a n : Nat) : Int)) (n : Int) := by omega
  have e2 : min (b : Int) (n : Int) = min (((min b n : Nat) : Int)) (n : Int) := by omega
  simp only [Builtin.Str.strSliceIndices, h1, h2, h3, h4, if_false, show ((1 : Int) > 0) = True from by simp, if_true, e1, e2]
theorem slice_S (l : List Nat) (a b : Nat) (hab : a ≤ b) : Txt.slice (S l) (some (a : Int)) (some (b : Int)) = S ((l.drop a).take (b - a)) := by
  have e : Txt.slice (S l) (some (a : Int)) (some (b : Int)) = StrLaws.sliceText (S l) (some ((min a l.length : Nat) : Int)) (some ((min b l.length : Nat) : Int)) := by
    unfold Txt.slice StrLaws.sliceText
    rw [S_length, idx_clamp]
  rw [e, StrLaws.sliceText_nat (S l) (by omega) (by rw [S_length]; omega), S_toList]
  show S _ = S _
  congr 1
  apply List.ext_getElem?
  intro i
  simp only [List.getElem?_take, List.getElem?_drop]
  by_cases h1 : i < b - a
  · rw [if_pos h1]
    by_cases h2 : i < min b l.length - min a l.length
    · rw [if_pos h2]
      congr 1
      omega
    · rw [if_neg h2]
      symm
      apply List.getElem?_eq_none
      omega
  · rw [if_neg h1, if_neg (by omega)]
theorem slice_Si (l : List Nat) (i j : Int) (h0 : 0 ≤ i) (hij : i ≤ j) : Txt.slice (S l) (some i) (some j) = S ((l.drop i.toNat).take (j - i).toNat) := by
  obtain ⟨a, rfl⟩ := Int.eq_ofNat_of_zero_le h0
  obtain ⟨b, rfl⟩ := Int.eq_ofNat_of_zero_le (Int.le_trans h0 hij)
  rw [slice_S l a b (by omega)]
  congr 2
  omega
/-- the letters of the plain patterns -/
def Let (c : Nat) : Prop := c = 97 ∨ c = 98 ∨ c = 65 ∨ c = 66
/-- a word that does not stand at a place -/
theorem no_word (l v : List Nat) (i : Nat) (c : Nat) (hc : l[i]? = some c) (d : Nat) (r : List Nat) (hv : v = d :: r) (hd : c ≠ d) : (Txt.slice (S l) (some (i : Int)) (some ((i : Int) + (v.length : Nat))) == S v) = false := by
  rw [show ((i : Int) + (v.length : Nat)) = ((i + v.length : Nat) : Int) by omega, slice_S l i _ (by omega), S_eq, decide_eq_false_iff_not]
  subst hv
  intro e
  have h := congrArg (fun z : List Nat => z[0]?) e
  simp only [List.getElem?_take, List.getElem?_drop, List.length_cons] at h
  rw [if_pos (by omega), Nat.add_zero, hc] at h
  simp at h
  exact hd h
theorem no_word_end (l v : List Nat) (i : Nat) (hi : l.length ≤ i) (hv : v ≠ []) : (Txt.slice (S l) (some (i : Int)) (some ((i : Int) + (v.length : Nat))) == S v) = false := by
  rw [show ((i : Int) + (v.length : Nat)) = ((i + v.length : Nat) : Int) by omega, slice_S l i _ (by omega), S_eq, decide_eq_false_iff_not]
  rw [List.drop_eq_nil_of_le hi]
  intro e
  exact hv (by simpa using e.symm)
theorem one_sign (l : List Nat) (i c : Nat) (hc : l[i]? = some c) : Txt.slice (S l) (some (i : Int)) (some ((i : Int) + 1)) = S [c] := by
  rw [show ((i : Int) + 1) = ((i + 1 : Nat) : Int) by omega, slice_S l i _ (by omega)]
  congr 1
  have hi : i < l.length := (List.getElem?_eq_some_iff.mp hc).1
  rw [show i + 1 - i = 1 by omega, List.take_one]
  simp [hc]
theorem no_sign (l : List Nat) (i : Nat) (hi : l.length ≤ i) : Txt.slice (S l) (some (i : Int)) (some ((i : Int) + 1)) = S [] := by
  rw [show ((i : Int) + 1) = ((i + 1 : Nat) : Int) by omega, slice_S l i _ (by omega), List.drop_eq_nil_of_le hi]
  simp
theorem no_wordI (l : List Nat) (i : Int) (h0 : 0 ≤ i) (c : Nat) (hc : l[i.toNat]? = some c) (v : Str) (d : Nat) (hv : v.cps.toList.head? = some d) (hd : c ≠ d) : (Txt.slice (S l) (some i) (some (i + (v.length : Nat))) == v) = false := by
  obtain ⟨k, rfl⟩ := Int.eq_ofNat_of_zero_le h0
  cases hr : v.cps.toList with
  | nil => rw [hr] at hv; cases hv
  | cons d' r =>
    rw [hr] at hv
    obtain rfl : d' = d := Option.some.inj hv
    have h := no_word l v.cps.toList k c (by simpa using hc) d' r hr hd
    rw [S_of] at h
    have e : v.cps.toList.length = v.length := by simp [Str.length]
    rw [e] at h
    exact h
theorem no_word_endI (l : List Nat) (i : Int) (h0 : 0 ≤ i) (hi : l[i.toNat]? = none) (v : Str) (d : Nat) (hv : v.cps.toList.head? = some d) : (Txt.slice (S l) (some i) (some (i + (v.length : Nat))) == v) = false := by
  obtain ⟨k, rfl⟩ := Int.eq_ofNat_of_zero_le h0
  have h := no_word_end l v.cps.toList k (by simpa using hi) (by intro e; rw [e] at hv; cases hv)
  rw [S_of] at h
  have e : v.cps.toList.length = v.length := by simp [Str.length]
  rw [e] at h
  exact h
theorem one_signI (l : List Nat) (i : Int) (h0 : 0 ≤ i) (c : Nat) (hc : l[i.toNat]? = some c) : Txt.slice (S l) (some i) (some (i + 1)) = S [c] := by
  obtain ⟨k, rfl⟩ := Int.eq_ofNat_of_zero_le h0
  exact one_sign l k c (by simpa using hc)
theorem no_signI (l : List Nat) (i : Int) (h0 : 0 ≤ i) (hi : l[i.toNat]? = none) : Txt.slice (S l) (some i) (some (i + 1)) = S [] := by
  obtain ⟨k, rfl⟩ := Int.eq_ofNat_of_zero_le h0
  exact no_sign l k (by simpa using hi)
end
section
/-- the end of a turn of an enumerate whose ledger may grow -/
def KEndE (h₀ : Heap) (L : Addr) (ns : List Str) (m : Str → Option Value) (own : List (Addr × Obj)) (I : Addr) (J : (Str → Option Value) → List (Addr × Obj) → Prop) (s₁ s₂ : Shared) : Prop :=
  ∃ h' tk m' news', s₂ = { s₁ with heap := h', toks := tk } ∧ Fr h₀ L h' m' ∧ News h₀ L h' (own ++ news') ∧ (∀ p ∈ news', p.1 ≠ I + 1 ∧ p.1 ≠ I) ∧ (∀ y, ns.contains y = false → m' y = m y) ∧ J m' news'
section
variable {prog : Program} {w : World} {A : Around} {E : Value → Shared → Prop} {s : Shared} {env : Env} {h₀ : Heap} {target : Expr} {body : List Stmt} {Q : Flow → Shared → Prop}
theorem turns_enumG {elts : List Expr} {k : Nat} {pos : Pos} {l : Addr} {lo : Obj} {vs : List Value} {n : Nat} {m : Str → Option Value} {news : List (Addr × Obj)} (ns : List Str)
    (hh : A.handled = none) (F : Fr h₀ env.locals s.heap m) (N : News h₀ env.locals s.heap news) (hm : (l, lo) ∈ news) (hc : lo.cls = .type "list") (hd : lo.data = .seq vs.toArray n)
    (J : Nat → (Str → Option Value) → List (Addr × Obj) → Prop) (h0 : J 0 m news)
    (turn : ∀ (i : Nat) x T t u news₁ h tk own I, vs[i]? = some x → IsTup h T #[.int (i : Int) t, x] → J i u news₁ → (∀ p ∈ news, p.1 < I) → (∀ p ∈ news₁, p.1 ≠ I + 1 ∧ p.1 ≠ I) → (∀ p ∈ own, p.1 = I + 1 ∨ p.1 = I ∨ p.1 = l) → Fr h₀ env.locals h (upd ns u m) → News h₀ env.locals h (own ++ news₁) →
      wpAny (model prog w) A (assign (.Tuple elts k pos) env (.ref T)) (fun _ s₃ => wpAny (model prog w) A (execs body env) (fun f s₄ => match f with
        | .ret v => Q (.ret v) s₄
        | .brk => Q .next s₄
        | _ => KEndE h₀ env.locals ns m own I (J (i + 1)) { s with heap := h, toks := tk } s₄) E s₃) E { s with heap := h, toks := tk })
    (done : ∀ u news' h tk, J vs.length u news' → Fr h₀ env.locals h (upd ns u m) → News h₀ env.locals h news' → Q .next { s with heap := h, toks := tk }) :
    wpAny (model prog w) A (call (.type "enumerate") [.ref l]) (fun xv s₁ => wpAny (model prog w) A (pyIter xv) (fun it s₂ => TurnsAt prog w A h₀ env (.Tuple elts k pos) body Q E it s₂) E s₁) E s := by
  have hax := N _ hm
  have hl : s.heap.IsList l vs.toArray := ⟨lo, hax.1, hc, n, hd⟩
  have hlt : l < s.heap.objs.size := Heap.lt_size hax.1
  have hLs : env.locals < s.heap.objs.size := F.ns.lt
  refine call_enumerate_list hl fun h' hE hI hsz hk => ?_
  refine wpAny_pyIter_enum hE ?_
  have W := KTurns.ofWalksU (elts := elts) (k := k) (pos := pos) (WalksT.enumerate (prog := prog) (w := w) hh (s.heap.objs.size + 1) s.heap.objs.size l (Nat.succ_ne_self _) (ktu_ne 1 hlt) (Nat.ne_of_lt hlt) vs.toArray).toU
  refine ⟨_, _, _, _, _, _, _, m, news, fun i m₁ news₁ => (∀ y, ns.contains y = false → m₁ y = m y) ∧ J i m₁ news₁, rfl, W, ?_, ?_, ?_, ⟨⟨.none, hE⟩, hI, hl.at fun o e => hk l o e⟩, F.keeps hk, N.grown hk, ⟨fun _ _ => rfl, h0⟩, ?_, ?_⟩
  · intro hI'
    have hb' : env.locals = s.heap.objs.size + 1 ∨ env.locals = s.heap.objs.size ∨ env.locals = l := by simpa using hI'
    rcases hb' with e | e | e
    · exact ktu_ne 1 hLs e
    · exact Nat.ne_of_lt hLs e
    · exact hax.2.1 e.symm
  · intro b hb
    have hb' : b = s.heap.objs.size + 1 ∨ b = s.heap.objs.size := by simpa using hb
    rcases hb' with rfl | rfl
    · exact ktu_new F (Nat.le_add_right _ _)
    · exact ktu_new F (Nat.le_refl _)
  · intro p hp hI'
    have hb' : p.1 = s.heap.objs.size + 1 ∨ p.1 = s.heap.objs.size := by simpa using hI'
    have hlp := Heap.lt_size (N p hp).1
    rcases hb' with e | e
    · exact ktu_ne 1 hlp e
    · exact Nat.ne_of_lt hlp e
  · rintro i v m₁ news₁ h₁ tk₁ own hin ⟨T, vals, rfl, ⟨t, x, hx, rfl⟩, hT⟩ ⟨hm, hJ⟩ hn1 hown _ hall hst₁ F₁ N₁
    have hx' : vs[i]? = some x := by simpa using hx
    have hn1' : ∀ p ∈ news₁, p.1 ≠ s.heap.objs.size + 1 ∧ p.1 ≠ s.heap.objs.size := fun p hp => by simpa using hn1 p hp
    refine wpAny_mono (turn i x T t m₁ news₁ h₁ tk₁ own _ hx' hT hJ (fun p hp => Heap.lt_size (N p hp).1) hn1' (fun p hp => by simpa using hown p hp) (fr_upd F₁ hm) N₁) (fun _ s₂ h₂ => wpAny_mono h₂ (fun f s₃ p => ?_) fun _ _ e => e) fun _ _ e => e
    have fin : KEndE h₀ env.locals ns m own s.heap.objs.size (J (i + 1)) { s with heap := h₁, toks := tk₁ } s₃ →
        LoopStepU h₀ env.locals [s.heap.objs.size + 1, s.heap.objs.size] own (fun m₁ news₁ => (∀ y, ns.contains y = false → m₁ y = m y) ∧ J (i + 1) m₁ news₁) { s with heap := h₁, toks := tk₁ } .next s₃ := by
      rintro ⟨h', tk, m', news', rfl, F', N', ha, hm', hj⟩
      exact .intro F' N' (fun p hp hq => by have h1 := ha p hp; simp at hq; exact hq.elim h1.1 h1.2) ⟨hm', hj⟩
    cases f with
    | ret v => exact .ret p
    | brk => exact .brk p
    | next => exact .next (fin p)
    | cont => exact .cont (fin p)
  · rintro h' tk m' news' F' N' _ ⟨hm, hj⟩
    exact done m' news' h' tk (by simpa using hj) (fr_upd F' hm) N'
end
end
section
local macro_rules | `(tactic| k_room) => `(tactic| ktr_room)
local macro_rules | `(tactic| k_units) => `(tactic| ktr_units)
local macro_rules | `(tactic| size_fits) => `(tactic| (simp only [List.length_cons, List.length_nil, List.size_toArray, Nat.zero_add, PySem.sizeLine_eq]; decide))
local macro_rules | `(tactic| kmk_size) => `(tactic| (simp only [List.length_cons, List.length_nil, List.size_toArray, Nat.zero_add, PySem.sizeLine_eq]; decide))
section
section
variable {w : World} {dp un : Nat} {gd : Option (List Code)} {cn : Str} {cs : Scope} {a : Addr} {ccd : Value} {cl : List (Str × Addr)} {outer : List Env} {A₀ : Around} {base h₀ : Heap} {L : Addr} {m : Str → Option Value} {news : List (Addr × Obj)} {s : Shared} {p : Program} {loose : List Str} {mean : ExcName → Option Value} {mg mb : Str → Option Value} {Q E : Value → Shared → Prop}

theorem great_rows {h : Heap} (X : (hd.heap_1_39 w.params).In h) : ∀ (i : Nat) (v : Value), [Value.ref 105, .ref 106, .ref 107, .ref 108, .ref 109, .ref 110, .ref 111, .ref 112, .ref 113, .ref 114, .ref 115, .ref 116][i]? = some v →
    ∃ T f l w' t1 t2 t3, v = .ref T ∧ IsTup h T #[.int f t1, .int l t2, .int w' t3] ∧ 65 ≤ f ∧ 32 ≤ w' := by
  intro i v hv
  have hm : v ∈ [Value.ref 105, .ref 106, .ref 107, .ref 108, .ref 109, .ref 110, .ref 111, .ref 112, .ref 113, .ref 114, .ref 115, .ref 116] := List.mem_of_getElem? hv
  simp only [List.mem_cons, List.not_mem_nil, or_false] at hm
  rcases hm with rfl | rfl | rfl | rfl | rfl | rfl | rfl | rfl | rfl | rfl | rfl | rfl <;>
    (refine ⟨_, _, _, _, _, _, _, rfl, tupK X (l := [.int _ _, .int _ _, .int _ _]) (by k_is), ?_, ?_⟩ <;> decide)
theorem turn_rows {h : Heap} (X : (hd.heap_1_39 w.params).In h) : ∀ (i : Nat) (v : Value), [Value.ref 118, .ref 119, .ref 120, .ref 121, .ref 122, .ref 123, .ref 124, .ref 125, .ref 126, .ref 127, .ref 128][i]? = some v →
    ∃ T f l t1 t2, v = .ref T ∧ IsTup h T #[.int f t1, .int l t2] ∧ 256 ≤ f := by
  intro i v hv
  have hm : v ∈ [Value.ref 118, .ref 119, .ref 120, .ref 121, .ref 122, .ref 123, .ref 124, .ref 125, .ref 126, .ref 127, .ref 128] := List.mem_of_getElem? hv
  simp only [List.mem_cons, List.not_mem_nil, or_false] at hm
  rcases hm with rfl | rfl | rfl | rfl | rfl | rfl | rfl | rfl | rfl | rfl | rfl <;>
    (refine ⟨_, _, _, _, _, rfl, tupK X (l := [.int _ _, .int _ _]) (by k_is), ?_⟩ <;> decide)
theorem great_low (B : Below A₀ base outer h₀) (F : Fr h₀ L s.heap m) (X : (hd.heap_1_39 w.params).In h₀) (N : News h₀ L s.heap news) (T : Top p loose mean mg mb h₀) (hk : cs.kind = .function) (hdd : dp + 4 < recursionLimit) (hu : un + 40 < cLine) (c : Int) (t1 : Tok) (h0 : 45 ≤ c) (hi : c ≤ 66)
  (hret : ∀ t h' tk', Fr h₀ L h' m → News h₀ L h' news → Q (.int c t) {s with heap := h', toks := tk'}) :
  wpAny (model prog w) (ktrTop dp un gd cn cs L a ccd cl outer) (call (.ref 146) [.int c t1]) Q E s := by
  refine wpAny_call ?_
  cell_enter
  k_steps
  · exfalso; omega
  rename Fr _ _ _ _ => F1; rename News _ _ _ _ => N1; rename Frag.In _ _ => X1
  refine turns_list (l := 117) (vs := [.ref 105, .ref 106, .ref 107, .ref 108, .ref 109, .ref 110, .ref 111, .ref 112, .ref 113, .ref 114, .ref 115, .ref 116]) [Str.ofString "first", Str.ofString "last", Str.ofString "way"] rfl (lstK X1 rfl) F1 N1 (fun _ _ n₁ => n₁ = news) rfl ?_ ?_
  · rintro i v u news₁ h tk own hv rfl F2 N2
    obtain ⟨T, f, l, w', q1, q2, q3, rfl, hT, hf, hw⟩ := great_rows (X1.keeps F2.keep) i v hv
    k_steps
    exact ⟨_, _, _, _, rfl, by assumption, by assumption, rfl, by ((intro y hy; have hc := hy; (simp only [List.contains_cons, List.contains_nil, Bool.or_false, Bool.or_eq_false_iff, beq_eq_false_iff_ne, ne_eq] at hc); (simp [upd, hy, hc]))), rfl⟩
  · rintro u news' h tk rfl F2 N2
    k_steps
    rename Fr _ _ _ _ => F3; rename News _ _ _ _ => N3
    refine turns_list (l := 129) (vs := [.ref 118, .ref 119, .ref 120, .ref 121, .ref 122, .ref 123, .ref 124, .ref 125, .ref 126, .ref 127, .ref 128]) [Str.ofString "first", Str.ofString "last"] rfl (lstK X1 rfl) F3 N3 (fun _ _ n₁ => n₁ = news') rfl ?_ ?_
    · rintro i v u news₁ h tk own hv rfl F2 N2
      obtain ⟨T, f, l, q1, q2, rfl, hT, hf⟩ := turn_rows (X1.keeps F2.keep) i v hv
      k_steps
      exact ⟨_, _, _, _, rfl, by assumption, by assumption, rfl, by ((intro y hy; have hc := hy; (simp only [List.contains_cons, List.contains_nil, Bool.or_false, Bool.or_eq_false_iff, beq_eq_false_iff_ne, ne_eq] at hc); (simp [upd, hy, hc]))), rfl⟩
    · rintro u news' h tk rfl F2 N2
      k_steps
      exact hret _ _ _ (by assumption) (by assumption)
theorem great_98 (B : Below A₀ base outer h₀) (F : Fr h₀ L s.heap m) (X : (hd.heap_1_39 w.params).In h₀) (N : News h₀ L s.heap news) (T : Top p loose mean mg mb h₀) (hk : cs.kind = .function) (hdd : dp + 4 < recursionLimit) (hu : un + 40 < cLine) (t1 : Tok)
  (hret : ∀ t h' tk', Fr h₀ L h' m → News h₀ L h' news → Q (.int 66 t) {s with heap := h', toks := tk'}) :
  wpAny (model prog w) (ktrTop dp un gd cn cs L a ccd cl outer) (call (.ref 146) [.int 98 t1]) Q E s := by
  refine wpAny_call ?_
  cell_enter
  k_steps
  rename Fr _ _ _ _ => F1; rename News _ _ _ _ => N1; rename Frag.In _ _ => X1
  refine turns_list (l := 117) (vs := [.ref 105, .ref 106, .ref 107, .ref 108, .ref 109, .ref 110, .ref 111, .ref 112, .ref 113, .ref 114, .ref 115, .ref 116]) [Str.ofString "first", Str.ofString "last", Str.ofString "way"] rfl (lstK X1 rfl) F1 N1 (fun i _ n₁ => n₁ = news ∧ i = 0) ⟨rfl, rfl⟩ ?_ ?_
  · rintro i v u news₁ h tk own hv ⟨rfl, rfl⟩ F2 N2
    obtain rfl : Value.ref 105 = v := Option.some.inj hv
    k_steps
    all_goals exact hret _ _ _ (by assumption) (News.right (by assumption))
  · rintro u news' h tk ⟨_, hn⟩ F2 N2
    cases hn
end
end
section
section
variable {w : World} {dp un : Nat} {gd : Option (List Code)} {cn : Str} {cs : Scope} {a : Addr} {ccd : Value} {cl : List (Str × Addr)} {outer : List Env} {A₀ : Around} {base h₀ : Heap} {L : Addr} {m : Str → Option Value} {news : List (Addr × Obj)} {s : Shared} {p : Program} {loose : List Str} {mean : ExcName → Option Value} {mg mb : Str → Option Value} {Q E : Value → Shared → Prop}

theorem flag_facts {x : Str} (hx : x = Str.ofString "g" ∨ x = Str.ofString "gm" ∨ x = Str.ofString "gi") : ∀ (i c : Nat), x.cps[i]? = some c →
    ([Str.ofString "g", Str.ofString "i", Str.ofString "m"].any fun y => y == { cps := #[c] }) = true ∧ ¬ (1 : Int) < Txt.count x { cps := #[c] } := by
  have key : ∀ x ∈ [Str.ofString "g", Str.ofString "gm", Str.ofString "gi"], ∀ c ∈ x.cps.toList, ([Str.ofString "g", Str.ofString "i", Str.ofString "m"].any fun y => y == { cps := #[c] }) = true ∧ ¬ (1 : Int) < Txt.count x { cps := #[c] } := by decide +kernel
  intro i c hc
  refine key x ?_ c ?_
  · simp only [List.mem_cons, List.not_mem_nil, or_false]; exact hx
  · exact Array.mem_toList_iff.mpr (Array.mem_of_getElem? hc)
theorem sign_facts {x : Str} (hx : x = Str.ofString "g" ∨ x = Str.ofString "gm" ∨ x = Str.ofString "gi") : ∀ (i : Nat) (c : Str), (signs x)[i]? = some c →
    (Builtin.Str.occurrences (Str.ofString "gim") c 0 (Str.ofString "gim").length 1).isEmpty = false ∧ (Builtin.Str.occurrences (Txt.slice x none (some (i : Int))) c 0 (Txt.slice x none (some (i : Int))).length 1).isEmpty = true ∧ x.length ≤ 2 ∧ i < x.length := by
  have key : ∀ x ∈ [Str.ofString "g", Str.ofString "gm", Str.ofString "gi"], (∀ c ∈ signs x, (Builtin.Str.occurrences (Str.ofString "gim") c 0 (Str.ofString "gim").length 1).isEmpty = false) ∧ x.length ≤ 2 ∧ (signs x).length = x.length ∧ (∀ i < x.length, (Builtin.Str.occurrences (Txt.slice x none (some (i : Int))) ((signs x)[i]?.getD x) 0 (Txt.slice x none (some (i : Int))).length 1).isEmpty = true) := by decide +kernel
  intro i c hc
  obtain ⟨k1, k2, k3, k4⟩ := key x (by simp only [List.mem_cons, List.not_mem_nil, or_false]; exact hx)
  have hi : i < x.length := by rw [← k3]; exact (List.getElem?_eq_some_iff.mp hc).1
  have k5 := k4 i hi
  rw [hc] at k5
  exact ⟨k1 c (List.mem_of_getElem? hc), k5, k2, hi⟩
theorem parse_flags_ok (B : Below A₀ base outer h₀) (F : Fr h₀ L s.heap m) (X : (hd.heap_1_39 w.params).In h₀) (N : News h₀ L s.heap news) (T : Top p loose mean mg mb h₀) (hk : cs.kind = .function) (hdd : dp + 4 < recursionLimit) (hu : un + 40 < cLine) (x : Str) (t : Tok) (hx : x = Str.ofString "g" ∨ x = Str.ofString "gm" ∨ x = Str.ofString "gi")
  (hret : ∀ v h' tk', Fr h₀ L h' m → News h₀ L h' news → Q v {s with heap := h', toks := tk'}) :
  wpAny (model prog w) (ktrTop dp un gd cn cs L a ccd cl outer) (call (.ref 458) [.str x t]) Q E s := by
  refine wpAny_call ?_
  cell_enter
  (repeat' (first | (k_unfold; (try dsimp only)) | (((with_reducible show wpAny _ _ _ (fun it s₂ => PairAt3 _ _ _ _ _ _ (Str.ofString "at") (Str.ofString "sign") _ _ it s₂) _ _); (refine' pair_inv [Str.ofString "at", Str.ofString "sign"] (PairSrcL.at (by assumption) _ rfl) (fun _ _ n₁ => n₁ = _) rfl ?_ ?_))) | ((with_reducible show wpAny _ _ (exec (Stmt.For (Expr.Name _ _) (Expr.Name _ _) _ _ _) _) _ _ _); (k_here; (with_reducible show wpAny _ _ (exec (Stmt.For _ (Expr.Name (Str.ofString "flags") _) _ _ _) _) _ _ _); (rename Fr _ _ _ _ => lF'); (with_unfolding_all refine' For_turns lF' ?_; k_whole))) | (k_end; kc_close) | walk1 | (dsimp only; walk1) | (leave1; walk_say "STEP leave1"; (try dsimp only)) | fail "no step"))
  rename Fr _ _ _ _ => F1; rename News _ _ _ _ => N1; rename Frag.In _ _ => X1
  refine turns_str [Str.ofString "sign"] rfl F1 N1 (fun _ _ n₁ => n₁ = news) rfl ?_ ?_
  · rintro i c t u news₁ h tk own hc rfl F2 N2
    obtain ⟨hA, hB⟩ := flag_facts hx i c hc
    (repeat' (first | (k_unfold; (try dsimp only)) | (((with_reducible show wpAny _ _ _ (fun it s₂ => PairAt3 _ _ _ _ _ _ (Str.ofString "at") (Str.ofString "sign") _ _ it s₂) _ _); (refine' pair_inv [Str.ofString "at", Str.ofString "sign"] (PairSrcL.at (by assumption) _ rfl) (fun _ _ n₁ => n₁ = _) rfl ?_ ?_))) | ((with_reducible show wpAny _ _ (exec (Stmt.For (Expr.Name _ _) (Expr.Name _ _) _ _ _) _) _ _ _); (k_here; (with_reducible show wpAny _ _ (exec (Stmt.For _ (Expr.Name (Str.ofString "flags") _) _ _ _) _) _ _ _); (rename Fr _ _ _ _ => lF'); (with_unfolding_all refine' For_turns lF' ?_; k_whole))) | (k_end; kc_close) | walk1 | (dsimp only; walk1) | (leave1; walk_say "STEP leave1"; (try dsimp only)) | fail "no step"))
    exact ⟨_, _, _, _, rfl, by assumption, cb_drop (by assumption) (fun _ h => .tail _ h), rfl, by ((intro y hy; have hc := hy; (simp only [List.contains_cons, List.contains_nil, Bool.or_false, Bool.or_eq_false_iff, beq_eq_false_iff_ne, ne_eq] at hc); (simp [upd, hy, hc]))), rfl⟩
  · rintro u news' h tk rfl F2 N2
    (repeat' (first | (k_unfold; (try dsimp only)) | (((with_reducible show wpAny _ _ _ (fun it s₂ => PairAt3 _ _ _ _ _ _ (Str.ofString "at") (Str.ofString "sign") _ _ it s₂) _ _); (refine' pair_inv [Str.ofString "at", Str.ofString "sign"] (PairSrcL.at (by assumption) _ rfl) (fun _ _ n₁ => n₁ = _) rfl ?_ ?_))) | ((with_reducible show wpAny _ _ (exec (Stmt.For (Expr.Name _ _) (Expr.Name _ _) _ _ _) _) _ _ _); (k_here; (with_reducible show wpAny _ _ (exec (Stmt.For _ (Expr.Name (Str.ofString "flags") _) _ _ _) _) _ _ _); (rename Fr _ _ _ _ => lF'); (with_unfolding_all refine' For_turns lF' ?_; k_whole))) | (k_end; kc_close) | walk1 | (dsimp only; walk1) | (leave1; walk_say "STEP leave1"; (try dsimp only)) | fail "no step"))
    exact hret _ _ _ (by assumption) (cb_drop (by assumption) (fun _ h => .tail _ h))
theorem check_flags_ok (B : Below A₀ base outer h₀) (F : Fr h₀ L s.heap m) (X : (hd.heap_1_39 w.params).In h₀) (N : News h₀ L s.heap news) (T : Top p loose mean mg mb h₀) (hk : cs.kind = .function) (hdd : dp + 4 < recursionLimit) (hu : un + 40 < cLine) (x : Str) (t : Tok) (hx : x = Str.ofString "g" ∨ x = Str.ofString "gm" ∨ x = Str.ofString "gi")
  (hret : ∀ h' tk', Fr h₀ L h' m → News h₀ L h' news → Q .none {s with heap := h', toks := tk'}) :
  wpAny (model prog w) (ktrTop dp un gd cn cs L a ccd cl outer) (call (.ref 640) [.str x t]) Q E s := by
  refine wpAny_call ?_
  cell_enter
  iterate 10 (first | (k_unfold; (try dsimp only)) | (((with_reducible show wpAny _ _ _ (fun it s₂ => PairAt3 _ _ _ _ _ _ (Str.ofString "at") (Str.ofString "sign") _ _ it s₂) _ _); (refine' pair_inv [Str.ofString "at", Str.ofString "sign"] (PairSrcL.at (by assumption) _ rfl) (fun _ _ n₁ => n₁ = _) rfl ?_ ?_))) | ((with_reducible show wpAny _ _ (exec (Stmt.For (Expr.Name _ _) (Expr.Name _ _) _ _ _) _) _ _ _); (k_here; (with_reducible show wpAny _ _ (exec (Stmt.For _ (Expr.Name (Str.ofString "flags") _) _ _ _) _) _ _ _); (rename Fr _ _ _ _ => lF'); (with_unfolding_all refine' For_turns lF' ?_; k_whole))) | walk1 | (dsimp only; walk1))
  rename News _ _ _ _ => N1
  refine' pair_inv [Str.ofString "at", Str.ofString "sign"] (PairSrcL.at (by assumption) _ rfl) (fun _ _ n₁ => n₁ = news) rfl ?_ ?_
  · rintro i c t v u news₁ h tk own hc hk' rfl F2 N2
    obtain ⟨t', rfl⟩ := ItemKind.str_is hk'
    obtain ⟨hA, hD, hB, hC⟩ := sign_facts hx i c hc
    (repeat' (first | (k_unfold; (try dsimp only)) | (((with_reducible show wpAny _ _ _ (fun it s₂ => PairAt3 _ _ _ _ _ _ (Str.ofString "at") (Str.ofString "sign") _ _ it s₂) _ _); (refine' pair_inv [Str.ofString "at", Str.ofString "sign"] (PairSrcL.at (by assumption) _ rfl) (fun _ _ n₁ => n₁ = _) rfl ?_ ?_))) | ((with_reducible show wpAny _ _ (exec (Stmt.For (Expr.Name _ _) (Expr.Name _ _) _ _ _) _) _ _ _); (k_here; (with_reducible show wpAny _ _ (exec (Stmt.For _ (Expr.Name (Str.ofString "flags") _) _ _ _) _) _ _ _); (rename Fr _ _ _ _ => lF'); (with_unfolding_all refine' For_turns lF' ?_; k_whole))) | (k_end; kc_close) | walk1 | (dsimp only; walk1) | (leave1; walk_say "STEP leave1"; (try dsimp only)) | fail "no step"))
    exact ⟨_, _, _, _, rfl, by assumption, by assumption, rfl, by ((intro y hy; have hc := hy; (simp only [List.contains_cons, List.contains_nil, Bool.or_false, Bool.or_eq_false_iff, beq_eq_false_iff_ne, ne_eq] at hc); (simp [upd, hy, hc]))), rfl⟩
  · rintro u news' h tk rfl F2 N2
    (repeat' (first | (k_unfold; (try dsimp only)) | (((with_reducible show wpAny _ _ _ (fun it s₂ => PairAt3 _ _ _ _ _ _ (Str.ofString "at") (Str.ofString "sign") _ _ it s₂) _ _); (refine' pair_inv [Str.ofString "at", Str.ofString "sign"] (PairSrcL.at (by assumption) _ rfl) (fun _ _ n₁ => n₁ = _) rfl ?_ ?_))) | ((with_reducible show wpAny _ _ (exec (Stmt.For (Expr.Name _ _) (Expr.Name _ _) _ _ _) _) _ _ _); (k_here; (with_reducible show wpAny _ _ (exec (Stmt.For _ (Expr.Name (Str.ofString "flags") _) _ _ _) _) _ _ _); (rename Fr _ _ _ _ => lF'); (with_unfolding_all refine' For_turns lF' ?_; k_whole))) | (k_end; kc_close) | walk1 | (dsimp only; walk1) | (leave1; walk_say "STEP leave1"; (try dsimp only)) | fail "no step"))
    exact hret _ _ (by assumption) (by assumption)
  · passes_own
end
end
section
local macro_rules | `(tactic| k_mem) => `(tactic| ((show (_ : Addr × Obj) ∈ (_ : List (Addr × Obj))); ktr_member))
local macro_rules | `(tactic| k_all) => `(tactic| assumption)
section
variable {w : World} {dp un : Nat} {gd : Option (List Code)} {cn : Str} {cs : Scope} {a : Addr} {ccd : Value} {cl : List (Str × Addr)} {outer : List Env} {A₀ : Around} {base h₀ : Heap} {L : Addr} {m : Str → Option Value} {news : List (Addr × Obj)} {s : Shared} {p : Program} {loose : List Str} {mean : ExcName → Option Value} {mg mb : Str → Option Value} {Q E : Value → Shared → Prop}

theorem sign_ok (B : Below A₀ base outer h₀) (F : Fr h₀ L s.heap m) (X : (hd.heap_1_39 w.params).In h₀) (N : News h₀ L s.heap news) (T : Top p loose mean mg mb h₀) (hk : cs.kind = .function) (hdd : dp + 4 < recursionLimit) (hu : un + 40 < cLine) (x d : Addr) (k1 k2 k3 k4 k5 t1 t2 t3 t4 t5 : Tok) (T : Str) (i : Int) (hx : (x, instObj 594 d) ∈ news) (hd : (d, dictOf [⟨PyData.keyHash w.params (Str.ofString "text"), .str (Str.ofString "text") k1, .str T t1⟩, ⟨PyData.keyHash w.params (Str.ofString "at"), .str (Str.ofString "at") k2, .int (i) t2⟩, ⟨PyData.keyHash w.params (Str.ofString "groups"), .str (Str.ofString "groups") k3, .int 0 t3⟩, ⟨PyData.keyHash w.params (Str.ofString "farthest_back"), .str (Str.ofString "farthest_back") k4, .int 0 t4⟩, ⟨PyData.keyHash w.params (Str.ofString "depth"), .str (Str.ofString "depth") k5, .int 0 t5⟩] 5) ∈ news) (hl : T.length ≤ 10) (h0 : 0 ≤ i) (hi : i ≤ 10) (z : Str) (hz : Txt.slice T (some i) (some (i + 1)) = z)
  (hret : ∀ t h' tk', Fr h₀ L h' m → News h₀ L h' news → Q (.str z t) {s with heap := h', toks := tk'}) :
  wpAny (model prog w) (ktrTop dp un gd cn cs L a ccd cl outer) (call (.ref 486) [.ref x]) Q E s := by
  refine wpAny_call ?_
  cell_enter
  k_steps
  subst hz
  exact hret _ _ _ (by assumption) (by assumption)
theorem skip_no (B : Below A₀ base outer h₀) (F : Fr h₀ L s.heap m) (X : (hd.heap_1_39 w.params).In h₀) (N : News h₀ L s.heap news) (T : Top p loose mean mg mb h₀) (hk : cs.kind = .function) (hdd : dp + 4 < recursionLimit) (hu : un + 40 < cLine) (x d : Addr) (k1 k2 k3 k4 k5 t1 t2 t3 t4 t5 : Tok) (T : Str) (i : Int) (hx : (x, instObj 594 d) ∈ news) (hd : (d, dictOf [⟨PyData.keyHash w.params (Str.ofString "text"), .str (Str.ofString "text") k1, .str T t1⟩, ⟨PyData.keyHash w.params (Str.ofString "at"), .str (Str.ofString "at") k2, .int (i) t2⟩, ⟨PyData.keyHash w.params (Str.ofString "groups"), .str (Str.ofString "groups") k3, .int 0 t3⟩, ⟨PyData.keyHash w.params (Str.ofString "farthest_back"), .str (Str.ofString "farthest_back") k4, .int 0 t4⟩, ⟨PyData.keyHash w.params (Str.ofString "depth"), .str (Str.ofString "depth") k5, .int 0 t5⟩] 5) ∈ news) (hl : T.length ≤ 10) (h0 : 0 ≤ i) (hi : i ≤ 10) (v : Str) (tv : Tok) (hv : v.length ≤ 10) (hz : (Txt.slice T (some i) (some (i + (v.length : Nat))) == v) = false)
  (hret : ∀ h' tk', Fr h₀ L h' m → News h₀ L h' news → Q (.bool false) {s with heap := h', toks := tk'}) :
  wpAny (model prog w) (ktrTop dp un gd cn cs L a ccd cl outer) (call (.ref 500) [.ref x, .str v tv]) Q E s := by
  have hz' : (Txt.slice T (some i) (some (i + (v.length : Nat))) != v) = true := by simp only [bne, hz, Bool.not_false]
  refine wpAny_call ?_
  cell_enter
  k_steps
  exact hret _ _ (by assumption) (by assumption)
theorem take_ok (B : Below A₀ base outer h₀) (F : Fr h₀ L s.heap m) (X : (hd.heap_1_39 w.params).In h₀)  (T : Top p loose mean mg mb h₀) (hk : cs.kind = .function) (hdd : dp + 4 < recursionLimit) (hu : un + 40 < cLine) (x d : Addr) (k1 k2 k3 k4 k5 t1 t2 t3 t4 t5 : Tok) (T : Str) (i : Int) (hx : (x, instObj 594 d) ∈ news) (N : News h₀ L s.heap ((d, dictOf [⟨PyData.keyHash w.params (Str.ofString "text"), .str (Str.ofString "text") k1, .str T t1⟩, ⟨PyData.keyHash w.params (Str.ofString "at"), .str (Str.ofString "at") k2, .int (i) t2⟩, ⟨PyData.keyHash w.params (Str.ofString "groups"), .str (Str.ofString "groups") k3, .int 0 t3⟩, ⟨PyData.keyHash w.params (Str.ofString "farthest_back"), .str (Str.ofString "farthest_back") k4, .int 0 t4⟩, ⟨PyData.keyHash w.params (Str.ofString "depth"), .str (Str.ofString "depth") k5, .int 0 t5⟩] 5) :: news)) (hne : ∀ p ∈ news, p.1 ≠ d) (hl : T.length ≤ 10) (h0 : 0 ≤ i) (hi : i ≤ 10) (z : Str) (hz : Txt.slice T (some i) (some (i + 1)) = z)
  (hret : ∀ tv t h' tk', Fr h₀ L h' m → News h₀ L h' ((d, dictOf [⟨PyData.keyHash w.params (Str.ofString "text"), .str (Str.ofString "text") k1, .str T t1⟩, ⟨PyData.keyHash w.params (Str.ofString "at"), .str (Str.ofString "at") k2, .int (i + 1) t⟩, ⟨PyData.keyHash w.params (Str.ofString "groups"), .str (Str.ofString "groups") k3, .int 0 t3⟩, ⟨PyData.keyHash w.params (Str.ofString "farthest_back"), .str (Str.ofString "farthest_back") k4, .int 0 t4⟩, ⟨PyData.keyHash w.params (Str.ofString "depth"), .str (Str.ofString "depth") k5, .int 0 t5⟩] 5) :: news) → Q (.str z tv) {s with heap := h', toks := tk'}) :
  wpAny (model prog w) (ktrTop dp un gd cn cs L a ccd cl outer) (call (.ref 493) [.ref x]) Q E s := by
  refine wpAny_call ?_
  cell_enter
  k_steps
  subst hz
  exact hret _ _ _ _ (by assumption) (by assumption)
end
end
section
local macro_rules | `(tactic| k_mem) => `(tactic| first | exact List.mem_cons_self | assumption | (refine' List.mem_cons_of_mem _ ?_; k_mem) | (refine' List.mem_append_right _ ?_; k_mem) | (refine' List.mem_append_left _ ?_; k_mem))
local macro_rules | `(tactic| k_all) => `(tactic| assumption)
section
section
variable {w : World} {dp un : Nat} {gd : Option (List Code)} {cn : Str} {cs : Scope} {a : Addr} {ccd : Value} {cl : List (Str × Addr)} {outer : List Env} {A₀ : Around} {base h₀ : Heap} {L : Addr} {m : Str → Option Value} {news : List (Addr × Obj)} {s : Shared} {p : Program} {loose : List Str} {mean : ExcName → Option Value} {mg mb : Str → Option Value} {Q E : Value → Shared → Prop}

theorem often_none (B : Below A₀ base outer h₀) (F : Fr h₀ L s.heap m) (X : (hd.heap_1_39 w.params).In h₀) (N : News h₀ L s.heap news) (T : Top p loose mean mg mb h₀) (hk : cs.kind = .function) (hdd : dp + 6 < recursionLimit) (hu : un + 60 < cLine) (x d : Addr) (k1 k2 k3 k4 k5 t1 t2 t3 t4 t5 : Tok) (T : Str) (i : Int) (hx : (x, instObj 594 d) ∈ news) (hd : (d, dictOf [⟨PyData.keyHash w.params (Str.ofString "text"), .str (Str.ofString "text") k1, .str T t1⟩, ⟨PyData.keyHash w.params (Str.ofString "at"), .str (Str.ofString "at") k2, .int (i) t2⟩, ⟨PyData.keyHash w.params (Str.ofString "groups"), .str (Str.ofString "groups") k3, .int 0 t3⟩, ⟨PyData.keyHash w.params (Str.ofString "farthest_back"), .str (Str.ofString "farthest_back") k4, .int 0 t4⟩, ⟨PyData.keyHash w.params (Str.ofString "depth"), .str (Str.ofString "depth") k5, .int 0 t5⟩] 5) ∈ news) (hl : T.length ≤ 10) (h0 : 0 ≤ i) (hi : i ≤ 9) (z : Str) (hz : Txt.slice T (some i) (some (i + 1)) = z) (hp : (decide (z = { cps := #[42] }) || (decide (z = { cps := #[43] }) || (decide (z = { cps := #[63] }) || false))) = false) (f1 : (Txt.slice T (some i) (some (i + ((Str.ofString "{").length : Nat))) == Str.ofString "{") = false)
  (hret : ∀ h' tk', Fr h₀ L h' m → News h₀ L h' news → Q .none {s with heap := h', toks := tk'}) :
  wpAny (model prog w) (ktrTop dp un gd cn cs L a ccd cl outer) (call (.ref 535) [.ref x]) Q E s := by
  refine wpAny_call ?_
  cell_enter
  (repeat' (first | (k_unfold; (try dsimp only)) | (((with_reducible show wpAny _ _ (call (Value.ref 500) _) _ _ _); k_dflt (refine' skip_no ?k1 ?k2 ?k3 ?k4 ?k5 ?kK ?kd ?ku _ _ _ _ _ _ _ _ _ _ _ _ _ _ ?km ?kn ?kl ?kp ?kq _ _ ?kv ?kz ?_; (case k1 => k_asm); (case k2 => k_asm); (case k3 => k_asm); (case k4 => k_asm); (case k5 => k_asm); (case kK => first | exact rfl | assumption); (case kd => ktr_room); (case ku => ktr_units); (case km => k_mem); (case kn => k_mem); (case kl => first | assumption | omega); (case kp => omega); (case kq => omega); (case kv => first | assumption | decide +kernel); (case kz => assumption); k_whole); (intro h9 tk9 F9 N9); (try dsimp only); (try k_fold))) | (((with_reducible show wpAny _ _ (call (Value.ref 486) _) _ _ _); k_dflt (refine' sign_ok ?k1 ?k2 ?k3 ?k4 ?k5 ?kK ?kd ?ku _ _ _ _ _ _ _ _ _ _ _ _ _ _ ?km ?kn ?kl ?kp ?kq _ ?kz ?_; (case k1 => k_asm); (case k2 => k_asm); (case k3 => k_asm); (case k4 => k_asm); (case k5 => k_asm); (case kK => first | exact rfl | assumption); (case kd => ktr_room); (case ku => ktr_units); (case km => k_mem); (case kn => k_mem); (case kl => first | assumption | omega); (case kp => omega); (case kq => omega); (case kz => assumption); k_whole); (intro t9 h9 tk9 F9 N9); (try dsimp only); (try k_fold))) | (k_end; kc_close) | walk1 | (dsimp only; walk1) | (leave1; walk_say "STEP leave1"; (try dsimp only)) | fail "no step"))
  exact hret _ _ (by assumption) (by assumption)
end
end
section
section
variable {w : World} {dp un : Nat} {gd : Option (List Code)} {cn : Str} {cs : Scope} {a : Addr} {ccd : Value} {cl : List (Str × Addr)} {outer : List Env} {A₀ : Around} {base h₀ : Heap} {L : Addr} {m : Str → Option Value} {news : List (Addr × Obj)} {s : Shared} {p : Program} {loose : List Str} {mean : ExcName → Option Value} {mg mb : Str → Option Value} {Q E : Value → Shared → Prop}

theorem assert_rows {h : Heap} (X : (hd.heap_1_39 w.params).In h) : ∀ (i : Nat) (v : Value), [Value.ref 437, .ref 439, .ref 441, .ref 443][i]? = some v →
    ∃ T v' tr t1 e, v = .ref T ∧ IsTup h T #[.str v' t1, .ref tr] ∧ v'.length ≤ 10 ∧ v'.cps.toList.head? = some e ∧ [97, 98, 65, 66].contains e = false := by
  intro i v hv
  have hm : v ∈ [Value.ref 437, .ref 439, .ref 441, .ref 443] := List.mem_of_getElem? hv
  simp only [List.mem_cons, List.not_mem_nil, or_false] at hm
  rcases hm with rfl | rfl | rfl | rfl <;>
    exact ⟨_, _, _, _, _, rfl, tupK X (l := [.str _ _, .ref _]) (by k_is), by decide +kernel, by rfl, by decide +kernel⟩

theorem term_ok (B : Below A₀ base outer h₀) (F : Fr h₀ L s.heap m) (X : (hd.heap_1_39 w.params).In h₀)  (T : Top p loose mean mg mb h₀) (hk : cs.kind = .function) (hdd : dp + 8 < recursionLimit) (hu : un + 80 < cLine) (x d : Addr) (k1 k2 k3 k4 k5 t1 t2 t3 t4 t5 : Tok) (T : Str) (i : Int) (hx : (x, instObj 594 d) ∈ news) (N : News h₀ L s.heap ((d, dictOf [⟨PyData.keyHash w.params (Str.ofString "text"), .str (Str.ofString "text") k1, .str T t1⟩, ⟨PyData.keyHash w.params (Str.ofString "at"), .str (Str.ofString "at") k2, .int (i) t2⟩, ⟨PyData.keyHash w.params (Str.ofString "groups"), .str (Str.ofString "groups") k3, .int 0 t3⟩, ⟨PyData.keyHash w.params (Str.ofString "farthest_back"), .str (Str.ofString "farthest_back") k4, .int 0 t4⟩, ⟨PyData.keyHash w.params (Str.ofString "depth"), .str (Str.ofString "depth") k5, .int 0 t5⟩] 5) :: news)) (hne : ∀ p ∈ news, p.1 ≠ d) (hl : T.length ≤ 10) (h0 : 0 ≤ i) (hi : i ≤ 7) (c : Nat) (l : List Nat) (hT : T = S l) (hc : l[i.toNat]? = some c) (hL : Let c) (hn : l[(i + 1).toNat]? = none ∨ ∃ c', l[(i + 1).toNat]? = some c' ∧ Let c')
  (hret : ∀ r ta tb t h' tk', (∀ p ∈ news, p.1 < r) → d < r → Fr h₀ L h' m → News h₀ L h' ((r, { cls := .type "tuple", data := .seq #[.str (Str.ofString "char") ta, .int c tb] }) :: (d, dictOf [⟨PyData.keyHash w.params (Str.ofString "text"), .str (Str.ofString "text") k1, .str T t1⟩, ⟨PyData.keyHash w.params (Str.ofString "at"), .str (Str.ofString "at") k2, .int (i + 1) t⟩, ⟨PyData.keyHash w.params (Str.ofString "groups"), .str (Str.ofString "groups") k3, .int 0 t3⟩, ⟨PyData.keyHash w.params (Str.ofString "farthest_back"), .str (Str.ofString "farthest_back") k4, .int 0 t4⟩, ⟨PyData.keyHash w.params (Str.ofString "depth"), .str (Str.ofString "depth") k5, .int 0 t5⟩] 5) :: news) → Q (.ref r) {s with heap := h', toks := tk'}) :
  wpAny (model prog w) (ktrTop dp un gd cn cs L a ccd cl outer) (call (.ref 521) [.ref x]) Q E s := by
  have nw : ∀ (v : Str) (e : Nat), v.cps.toList.head? = some e → (c == e) = false → (Txt.slice T (some i) (some (i + (v.length : Nat))) == v) = false := by
    intro v e hv hce
    rw [hT]
    exact no_wordI l i h0 c hc v e hv (by simpa using hce)
  have hce : ∀ e, ([97, 98, 65, 66].contains e) = false → (c == e) = false := by
    intro e he
    rcases hL with rfl | rfl | rfl | rfl <;> (simp at he ⊢; omega)
  have f5 := nw (Str.ofString "(?=") 40 (by decide) (hce _ (by decide))
  have f6 := nw (Str.ofString "(?!") 40 (by decide) (hce _ (by decide))
  have f7 : Txt.slice T (some i) (some (i + 1)) = S [c] := by rw [hT]; exact one_signI l i h0 c hc
  have g : (S [c] == Str.ofString ".") = false ∧ (S [c] == Str.ofString "\\") = false ∧ (S [c] == Str.ofString "[") = false ∧ (S [c] == Str.ofString "(") = false ∧ (Builtin.Str.occurrences (Str.ofString "^$\\.*+?()[]{}|") (S [c]) 0 (Str.ofString "^$\\.*+?()[]{}|").length 1).isEmpty = true := by
    rcases hL with rfl | rfl | rfl | rfl <;> decide +kernel
  obtain ⟨g1, g2, g3, g4, g5⟩ := g
  obtain ⟨z, hz⟩ : ∃ z, Txt.slice T (some (i + 1)) (some (i + 1 + 1)) = z := ⟨_, rfl⟩
  have hp : (decide (z = { cps := #[42] }) || (decide (z = { cps := #[43] }) || (decide (z = { cps := #[63] }) || false))) = false := by
    subst hz
    rw [hT]
    rcases hn with hn | ⟨c', hn, hL'⟩
    · rw [no_signI l (i + 1) (by omega) hn]; decide +kernel
    · rw [one_signI l (i + 1) (by omega) c' hn]; rcases hL' with rfl | rfl | rfl | rfl <;> decide +kernel
  have f8 : (Txt.slice T (some (i + 1)) (some (i + 1 + ((Str.ofString "{").length : Nat))) == Str.ofString "{") = false := by
    rw [hT]
    rcases hn with hn | ⟨c', hn, hL'⟩
    · exact no_word_endI l (i + 1) (by omega) hn _ 123 (by decide)
    · exact no_wordI l (i + 1) (by omega) c' hn _ 123 (by decide) (by rcases hL' with rfl | rfl | rfl | rfl <;> decide)
  refine wpAny_call ?_
  cell_enter
  (repeat ((fail_if_success (with_reducible show wpAny _ _ (pyIter _) _ _ _)); first | (k_unfold; (try dsimp only)) | (((with_reducible show wpAny _ _ (call (Value.ref 535) _) _ _ _); k_dflt (refine' often_none ?k1 ?k2 ?k3 ?k4 ?k5 ?kK ?kd ?ku _ _ _ _ _ _ _ _ _ _ _ _ _ _ ?km ?kn ?kl ?kp ?kq _ ?kz ?kr ?ks ?_; (case k1 => k_asm); (case k2 => k_asm); (case k3 => k_asm); (case k4 => k_asm); (case k5 => k_asm); (case kK => first | exact rfl | assumption); (case kd => ktr_room); (case ku => ktr_units); (case km => k_mem); (case kn => k_mem); (case kl => first | assumption | omega); (case kp => omega); (case kq => omega); (case kz => assumption); (case kr => assumption); (case ks => assumption); k_whole); (intro h9 tk9 F9 N9); (try dsimp only); (try k_fold))) | (((with_reducible show wpAny _ _ (call (Value.ref 493) _) _ _ _); k_dflt (refine' take_ok ?k1 ?k2 ?k3 ?k5 ?kK ?kd ?ku _ _ _ _ _ _ _ _ _ _ _ _ _ _ ?km ?k4 ?kne ?kl ?kp ?kq _ ?kz ?_; (case k1 => k_asm); (case k2 => k_asm); (case k3 => k_asm); (case k5 => k_asm); (case kK => first | exact rfl | assumption); (case kd => ktr_room); (case ku => ktr_units); (case k4 => k_asm); (case km => k_mem); (case kne => assumption); (case kl => first | assumption | omega); (case kp => omega); (case kq => omega); (case kz => assumption); k_whole); (intro v9 t9 h9 tk9 F9 N9); (try dsimp only); (try k_fold))) | (((with_reducible show wpAny _ _ (call (Value.ref 500) _) _ _ _); k_dflt (refine' skip_no ?k1 ?k2 ?k3 ?k4 ?k5 ?kK ?kd ?ku _ _ _ _ _ _ _ _ _ _ _ _ _ _ ?km ?kn ?kl ?kp ?kq _ _ ?kv ?kz ?_; (case k1 => k_asm); (case k2 => k_asm); (case k3 => k_asm); (case k4 => k_asm); (case k5 => k_asm); (case kK => first | exact rfl | assumption); (case kd => ktr_room); (case ku => ktr_units); (case km => k_mem); (case kn => k_mem); (case kl => first | assumption | omega); (case kp => omega); (case kq => omega); (case kv => first | assumption | decide +kernel); (case kz => assumption); k_whole); (intro h9 tk9 F9 N9); (try dsimp only); (try k_fold))) | walk1 | (dsimp only; walk1)))
  rename Frag.In _ _ => X1
  refine' turns_tup (vs := [Value.ref 437, .ref 439, .ref 441, .ref 443]) [Str.ofString "word", Str.ofString "tree"] rfl (tupK X1 (by k_is)) (by assumption) (by assumption) (fun _ _ n₁ => n₁ = _) rfl ?_ ?_
  · rintro i' v u news₁ h tk own hv rfl F2 N2
    obtain ⟨T', v', tr, t1', e, rfl, hT', hl', hh, he⟩ := assert_rows (X1.keeps F2.keep) i' v hv
    have f0 := nw v' e hh (hce e he)
    (repeat' (first | (k_unfold; (try dsimp only)) | (((with_reducible show wpAny _ _ (call (Value.ref 535) _) _ _ _); k_dflt (refine' often_none ?k1 ?k2 ?k3 ?k4 ?k5 ?kK ?kd ?ku _ _ _ _ _ _ _ _ _ _ _ _ _ _ ?km ?kn ?kl ?kp ?kq _ ?kz ?kr ?ks ?_; (case k1 => k_asm); (case k2 => k_asm); (case k3 => k_asm); (case k4 => k_asm); (case k5 => k_asm); (case kK => first | exact rfl | assumption); (case kd => ktr_room); (case ku => ktr_units); (case km => k_mem); (case kn => k_mem); (case kl => first | assumption | omega); (case kp => omega); (case kq => omega); (case kz => assumption); (case kr => assumption); (case ks => assumption); k_whole); (intro h9 tk9 F9 N9); (try dsimp only); (try k_fold))) | (((with_reducible show wpAny _ _ (call (Value.ref 493) _) _ _ _); k_dflt (refine' take_ok ?k1 ?k2 ?k3 ?k5 ?kK ?kd ?ku _ _ _ _ _ _ _ _ _ _ _ _ _ _ ?km ?k4 ?kne ?kl ?kp ?kq _ ?kz ?_; (case k1 => k_asm); (case k2 => k_asm); (case k3 => k_asm); (case k5 => k_asm); (case kK => first | exact rfl | assumption); (case kd => ktr_room); (case ku => ktr_units); (case k4 => k_asm); (case km => k_mem); (case kne => assumption); (case kl => first | assumption | omega); (case kp => omega); (case kq => omega); (case kz => assumption); k_whole); (intro v9 t9 h9 tk9 F9 N9); (try dsimp only); (try k_fold))) | (((with_reducible show wpAny _ _ (call (Value.ref 500) _) _ _ _); k_dflt (refine' skip_no ?k1 ?k2 ?k3 ?k4 ?k5 ?kK ?kd ?ku _ _ _ _ _ _ _ _ _ _ _ _ _ _ ?km ?kn ?kl ?kp ?kq _ _ ?kv ?kz ?_; (case k1 => k_asm); (case k2 => k_asm); (case k3 => k_asm); (case k4 => k_asm); (case k5 => k_asm); (case kK => first | exact rfl | assumption); (case kd => ktr_room); (case ku => ktr_units); (case km => k_mem); (case kn => k_mem); (case kl => first | assumption | omega); (case kp => omega); (case kq => omega); (case kv => first | assumption | decide +kernel); (case kz => assumption); k_whole); (intro h9 tk9 F9 N9); (try dsimp only); (try k_fold))) | (k_end; kc_close) | walk1 | (dsimp only; walk1) | (leave1; walk_say "STEP leave1"; (try dsimp only)) | fail "no step"))
    exact ⟨_, _, _, _, rfl, by assumption, by assumption, rfl, by ((intro y hy; have hc := hy; (simp only [List.contains_cons, List.contains_nil, Bool.or_false, Bool.or_eq_false_iff, beq_eq_false_iff_ne, ne_eq] at hc); (simp [upd, hy, hc]))), rfl⟩
  · rintro u news' h tk rfl F2 N2
    clear nw hce
    (repeat' (first | (k_unfold; (try dsimp only)) | (((with_reducible show wpAny _ _ (call (Value.ref 535) _) _ _ _); k_dflt (refine' often_none ?k1 ?k2 ?k3 ?k4 ?k5 ?kK ?kd ?ku _ _ _ _ _ _ _ _ _ _ _ _ _ _ ?km ?kn ?kl ?kp ?kq _ ?kz ?kr ?ks ?_; (case k1 => k_asm); (case k2 => k_asm); (case k3 => k_asm); (case k4 => k_asm); (case k5 => k_asm); (case kK => first | exact rfl | assumption); (case kd => ktr_room); (case ku => ktr_units); (case km => k_mem); (case kn => k_mem); (case kl => first | assumption | omega); (case kp => omega); (case kq => omega); (case kz => assumption); (case kr => assumption); (case ks => assumption); k_whole); (intro h9 tk9 F9 N9); (try dsimp only); (try k_fold))) | (((with_reducible show wpAny _ _ (call (Value.ref 493) _) _ _ _); k_dflt (refine' take_ok ?k1 ?k2 ?k3 ?k5 ?kK ?kd ?ku _ _ _ _ _ _ _ _ _ _ _ _ _ _ ?km ?k4 ?kne ?kl ?kp ?kq _ ?kz ?_; (case k1 => k_asm); (case k2 => k_asm); (case k3 => k_asm); (case k5 => k_asm); (case kK => first | exact rfl | assumption); (case kd => ktr_room); (case ku => ktr_units); (case k4 => k_asm); (case km => k_mem); (case kne => assumption); (case kl => first | assumption | omega); (case kp => omega); (case kq => omega); (case kz => assumption); k_whole); (intro v9 t9 h9 tk9 F9 N9); (try dsimp only); (try k_fold))) | (((with_reducible show wpAny _ _ (call (Value.ref 500) _) _ _ _); k_dflt (refine' skip_no ?k1 ?k2 ?k3 ?k4 ?k5 ?kK ?kd ?ku _ _ _ _ _ _ _ _ _ _ _ _ _ _ ?km ?kn ?kl ?kp ?kq _ _ ?kv ?kz ?_; (case k1 => k_asm); (case k2 => k_asm); (case k3 => k_asm); (case k4 => k_asm); (case k5 => k_asm); (case kK => first | exact rfl | assumption); (case kd => ktr_room); (case ku => ktr_units); (case km => k_mem); (case kn => k_mem); (case kl => first | assumption | omega); (case kp => omega); (case kq => omega); (case kv => first | assumption | decide +kernel); (case kz => assumption); k_whole); (intro h9 tk9 F9 N9); (try dsimp only); (try k_fold))) | (k_end; kc_close) | walk1 | (dsimp only; walk1) | (leave1; walk_say "STEP leave1"; (try dsimp only)) | fail "no step"))
    rename _ ∧ AllLt _ _ => l1
    exact hret _ _ _ _ _ _ (ktn_ltOf l1.2) l1.1 (by assumption) (by assumption)
theorem news_head {h : Heap} {pre post : List (Addr × Obj)} {q : Addr × Obj} (N : News h₀ L h (pre ++ q :: post)) : News h₀ L h (q :: (pre ++ post)) := fun p hp => N p (by
  rcases List.mem_cons.mp hp with rfl | hp
  · exact List.mem_append_right _ List.mem_cons_self
  · rcases List.mem_append.mp hp with hp | hp
    · exact List.mem_append_left _ hp
    · exact List.mem_append_right _ (List.mem_cons_of_mem _ hp))
theorem news_mid {h : Heap} {pre post : List (Addr × Obj)} {q r : Addr × Obj} (N : News h₀ L h (r :: q :: (pre ++ post))) : News h₀ L h (r :: (pre ++ q :: post)) := fun p hp => N p (by
  rcases List.mem_cons.mp hp with rfl | hp
  · exact List.mem_cons_self
  · refine List.mem_cons_of_mem _ ?_
    rcases List.mem_append.mp hp with hp | hp
    · exact List.mem_cons_of_mem _ (List.mem_append_left _ hp)
    · rcases List.mem_cons.mp hp with rfl | hp
      · exact List.mem_cons_self
      · exact List.mem_cons_of_mem _ (List.mem_append_right _ hp))
theorem term_u (B : Below A₀ base outer h₀) (F : Fr h₀ L s.heap m) (X : (hd.heap_1_39 w.params).In h₀)  (Tp : Top p loose mean mg mb h₀) (hk : cs.kind = .function) (hdd : dp + 8 < recursionLimit) (hu : un + 80 < cLine) (x d : Addr) (k1 k2 k3 k4 k5 t1 t2 t3 t4 t5 : Tok) (T : Str) (i : Int) {nw : List (Addr × Obj)} {g : Obj → List (Addr × Obj)} (hx : (x, instObj 594 d) ∈ nw) (N : News h₀ L s.heap nw) (U : UpdF d (dictOf [⟨PyData.keyHash w.params (Str.ofString "text"), .str (Str.ofString "text") k1, .str T t1⟩, ⟨PyData.keyHash w.params (Str.ofString "at"), .str (Str.ofString "at") k2, .int (i) t2⟩, ⟨PyData.keyHash w.params (Str.ofString "groups"), .str (Str.ofString "groups") k3, .int 0 t3⟩, ⟨PyData.keyHash w.params (Str.ofString "farthest_back"), .str (Str.ofString "farthest_back") k4, .int 0 t4⟩, ⟨PyData.keyHash w.params (Str.ofString "depth"), .str (Str.ofString "depth") k5, .int 0 t5⟩] 5) nw g) (hxd : x ≠ d) (hl : T.length ≤ 10) (h0 : 0 ≤ i) (hi : i ≤ 7) (c : Nat) (l : List Nat) (hT : T = S l) (hc : l[i.toNat]? = some c) (hL : Let c) (hn : l[(i + 1).toNat]? = none ∨ ∃ c', l[(i + 1).toNat]? = some c' ∧ Let c')
  (hret : ∀ r ta tb t h' tk', (∀ p ∈ nw, p.1 < r) → Fr h₀ L h' m → News h₀ L h' ((r, { cls := .type "tuple", data := .seq #[.str (Str.ofString "char") ta, .int c tb] }) :: g (dictOf [⟨PyData.keyHash w.params (Str.ofString "text"), .str (Str.ofString "text") k1, .str T t1⟩, ⟨PyData.keyHash w.params (Str.ofString "at"), .str (Str.ofString "at") k2, .int (i + 1) t⟩, ⟨PyData.keyHash w.params (Str.ofString "groups"), .str (Str.ofString "groups") k3, .int 0 t3⟩, ⟨PyData.keyHash w.params (Str.ofString "farthest_back"), .str (Str.ofString "farthest_back") k4, .int 0 t4⟩, ⟨PyData.keyHash w.params (Str.ofString "depth"), .str (Str.ofString "depth") k5, .int 0 t5⟩] 5)) → Q (.ref r) {s with heap := h', toks := tk'}) :
  wpAny (model prog w) (ktrTop dp un gd cn cs L a ccd cl outer) (call (.ref 521) [.ref x]) Q E s := by
  obtain ⟨pre, post, rfl, hg, h1, h2⟩ := U.split
  refine term_ok (news := pre ++ post) B F X Tp hk hdd hu x d k1 k2 k3 k4 k5 t1 t2 t3 t4 t5 T i ?_ (news_head N) ?_ hl h0 hi c l hT hc hL hn ?_
  · rcases List.mem_append.mp hx with hx | hx
    · exact List.mem_append_left _ hx
    · rcases List.mem_cons.mp hx with e | hx
      · exact absurd (congrArg Prod.fst e) hxd
      · exact List.mem_append_right _ hx
  · intro p hp
    exact (List.mem_append.mp hp).elim (h1 p) (h2 p)
  · intro r ta tb t h' tk' ha hb F' N'
    refine hret r ta tb t h' tk' ?_ F' (by rw [hg]; exact news_mid N')
    intro p hp
    rcases List.mem_append.mp hp with hp | hp
    · exact ha p (List.mem_append_left _ hp)
    · rcases List.mem_cons.mp hp with rfl | hp
      · exact hb
      · exact ha p (List.mem_append_right _ hp)
end
end
section
local macro_rules | `(tactic| walk_at "exec While Compare cons nil") => `(tactic| (k_here; k_dflt (refine whl_start 100 ?_)))
local macro_rules | `(tactic| walk_at "exec While Call cons nil") => `(tactic| (k_here; k_dflt (refine whl_start 100 ?_)))
local macro_rules | `(tactic| walk_at "WhlIf") => `(tactic| first | (refine WhlIf.yes (by assumption) ?_) | (refine WhlIf.no (by assumption) ?_))
section
section
variable {w : World} {dp un : Nat} {gd : Option (List Code)} {cn : Str} {cs : Scope} {a : Addr} {ccd : Value} {cl : List (Str × Addr)} {outer : List Env} {A₀ : Around} {base h₀ : Heap} {L : Addr} {m : Str → Option Value} {news : List (Addr × Obj)} {s : Shared} {p : Program} {loose : List Str} {mean : ExcName → Option Value} {mg mb : Str → Option Value} {Q E : Value → Shared → Prop}

theorem ends_not {A : Around} {x' : Str} {u : Tok} (X : (hd.heap_1_39 w.params).In s.heap) (h : Q (.bool (!([Str.ofString "", Str.ofString "|", Str.ofString ")"].any fun y => y == x'))) s) : wpAny (model prog w) A (compareOp .NotIn (.str x' u) (.ref 435)) Q E s :=
  notin_tuple_strs (tupK X (l := [.str (Str.ofString "") _, .str (Str.ofString "|") _, .str (Str.ofString ")") _]) (by k_is)) (by kde_strs) h

theorem news_rot {h : Heap} {L : Addr} {a b c : Addr × Obj} {r : List (Addr × Obj)} (N : News h₀ L h (a :: b :: c :: r)) : News h₀ L h (b :: c :: a :: r) := fun p hp => N p (by
  simp only [List.mem_cons] at hp ⊢
  rcases hp with h | h | h | h
  · exact .inr (.inl h)
  · exact .inr (.inr (.inl h))
  · exact .inl h
  · exact .inr (.inr (.inr h)))
theorem nm_lt {d a : Nat} (h : d < a) : ∃ b, b = a ∧ d < b := ⟨a, rfl, h⟩
def chT (c : Nat) (t u : Tok) : Obj := { cls := .type "tuple", data := .seq #[.str (Str.ofString "char") t, .int c u] }
def CharTs (nw : List (Addr × Obj)) (vs : List Value) (l : List Nat) : Prop := vs.length = l.length ∧ ∀ (i c : Nat), l[i]? = some c → ∃ a t u, vs[i]? = some (.ref a) ∧ (a, chT c t u) ∈ nw
theorem CharTs.mono {nw nw' : List (Addr × Obj)} {vs : List Value} {l : List Nat} (h : CharTs nw vs l) (k : ∀ p ∈ nw, p ∈ nw') : CharTs nw' vs l :=
  ⟨h.1, fun i c e => let ⟨a, t, u, x, y⟩ := h.2 i c e; ⟨a, t, u, x, k _ y⟩⟩
theorem CharTs.snoc {nw : List (Addr × Obj)} {vs : List Value} {l : List Nat} {a : Addr} {c : Nat} {t u : Tok} (h : CharTs nw vs l) : CharTs ((a, chT c t u) :: nw) (vs ++ [.ref a]) (l ++ [c]) := by
  refine ⟨by simp [h.1], fun i e he => ?_⟩
  by_cases hi : i < l.length
  · rw [List.getElem?_append_left hi] at he
    obtain ⟨b, t', u', x, y⟩ := h.2 i e he
    refine ⟨b, t', u', ?_, List.mem_cons_of_mem _ y⟩
    rw [List.getElem?_append_left (by rw [h.1]; exact hi)]
    exact x
  · have hl := (List.getElem?_eq_some_iff.mp he).1
    have hi' : i = l.length := by simp at hl; omega
    subst hi'
    rw [List.getElem?_append_right (Nat.le_refl _), Nat.sub_self] at he
    obtain rfl : c = e := by simpa using he
    refine ⟨a, t, u, ?_, List.mem_cons_self⟩
    rw [← h.1, List.getElem?_append_right (Nat.le_refl _), Nat.sub_self]
    rfl

theorem alt_ok (B : Below A₀ base outer h₀) (F : Fr h₀ L s.heap m) (X : (hd.heap_1_39 w.params).In h₀)  (T : Top p loose mean mg mb h₀) (hk : cs.kind = .function) (hdd : dp + 12 < recursionLimit) (hu : un + 120 < cLine) (x d : Addr) (k1 k2 k3 k4 k5 t1 t2 t3 t4 t5 : Tok) (T : Str) (i : Int) (hx : (x, instObj 594 d) ∈ news) (N : News h₀ L s.heap ((d, dictOf [⟨PyData.keyHash w.params (Str.ofString "text"), .str (Str.ofString "text") k1, .str T t1⟩, ⟨PyData.keyHash w.params (Str.ofString "at"), .str (Str.ofString "at") k2, .int (i) t2⟩, ⟨PyData.keyHash w.params (Str.ofString "groups"), .str (Str.ofString "groups") k3, .int 0 t3⟩, ⟨PyData.keyHash w.params (Str.ofString "farthest_back"), .str (Str.ofString "farthest_back") k4, .int 0 t4⟩, ⟨PyData.keyHash w.params (Str.ofString "depth"), .str (Str.ofString "depth") k5, .int 0 t5⟩] 5) :: news)) (hne : ∀ p ∈ news, p.1 ≠ d) (hxd : x ≠ d) (l : List Nat) (hT : T = S l) (hl : l.length ≤ 7) (hL : ∀ c ∈ l, Let c) (h0 : i = 0)
  (hret : ∀ (TR SQ : Addr) (z : Tok) (vs : List Value) (rest : List (Addr × Obj)) (t2' : Tok) h' tk', CharTs rest vs l → (x, instObj 594 d) ∈ rest → (∀ p ∈ news, p ∈ rest) → (∀ p ∈ rest, p.1 ≠ d) → Fr h₀ L h' m → News h₀ L h' ((TR, ({ cls := .type "tuple", data := .seq #[.str (Str.ofString "seq") z, .ref SQ] } : Obj)) :: (SQ, ({ cls := .type "tuple", data := .seq vs.toArray } : Obj)) :: (d, dictOf [⟨PyData.keyHash w.params (Str.ofString "text"), .str (Str.ofString "text") k1, .str T t1⟩, ⟨PyData.keyHash w.params (Str.ofString "at"), .str (Str.ofString "at") k2, .int ((l.length : Nat)) t2'⟩, ⟨PyData.keyHash w.params (Str.ofString "groups"), .str (Str.ofString "groups") k3, .int 0 t3⟩, ⟨PyData.keyHash w.params (Str.ofString "farthest_back"), .str (Str.ofString "farthest_back") k4, .int 0 t4⟩, ⟨PyData.keyHash w.params (Str.ofString "depth"), .str (Str.ofString "depth") k5, .int 0 t5⟩] 5) :: rest) → Q (.ref TR) {s with heap := h', toks := tk'}) :
  wpAny (model prog w) (ktrTop dp un gd cn cs L a ccd cl outer) (call (.ref 514) [.ref x]) Q E s := by
  refine wpAny_call ?_
  cell_enter
  (repeat ((fail_if_success (with_reducible show wpAny _ _ (exec (Stmt.While _ _ _ _) _) _ _ _)); first | (k_unfold; (try dsimp only)) | ((k_here; (with_reducible show wpAny _ _ (compareOp CmpOp.NotIn (Value.str _ _) (Value.ref 435)) _ _ _); k_dflt (refine' ends_not ?k0 ?_; (case k0 => k_in); k_whole))) | (((with_reducible show wpAny _ _ (call (Value.ref 521) _) _ _ _); k_dflt (refine' term_u ?k1 ?k2 ?k3 ?k5 ?kK ?kd ?ku _ _ _ _ _ _ _ _ _ _ _ _ _ _ ?km ?k4 ?kU ?kxd ?kl ?kp ?kq _ _ ?kT ?kc ?kL ?kn ?_; (case k1 => k_asm); (case k2 => k_asm); (case k3 => k_asm); (case k5 => k_asm); (case kK => first | exact rfl | assumption); (case kd => ktr_room); (case ku => ktr_units); (case k4 => k_asm); (case km => k_mem); (case kU => k_updF); (case kxd => assumption); (case kl => first | assumption | omega); (case kp => omega); (case kq => omega); (case kT => assumption); (case kc => assumption); (case kL => assumption); (case kn => assumption); k_whole); (intro r9 ta9 tb9 t9 h9 tk9 l9 F9 N9; (try k_lt l9)); (try dsimp only); (try k_fold))) | (((with_reducible show wpAny _ _ (call (Value.ref 486) _) _ _ _); k_dflt (refine' sign_ok ?k1 ?k2 ?k3 ?k4 ?k5 ?kK ?kd ?ku _ _ _ _ _ _ _ _ _ _ _ _ _ _ ?km ?kn ?kl ?kp ?kq _ ?kz ?_; (case k1 => k_asm); (case k2 => k_asm); (case k3 => k_asm); (case k4 => k_asm); (case k5 => k_asm); (case kK => first | exact rfl | assumption); (case kd => ktr_room); (case ku => ktr_units); (case km => k_mem); (case kn => k_mem); (case kl => first | assumption | omega); (case kp => omega); (case kq => omega); (case kz => assumption); k_whole); (intro t9 h9 tk9 F9 N9); (try dsimp only); (try k_fold))) | ((with_reducible show wpAny _ _ (subscriptTail (Expr.Name _ _) (Expr.Constant _ _ _) _ _) _ _ _); (k_here; (with_reducible show wpAny _ _ (subscriptTail _ _ (Value.ref _) (Value.int _ _)) _ _ _); (with_unfolding_all refine' item_litK ?k1 ?k2 ?k3 ?k4 ?_ ?k6; (case k1 => exact News.isList (by k_asm) (by k_mem)); (case k2 => decide); (case k3 => decide); (case k4 => rfl); (case k6 => with_unfolding_all rfl); k_whole))) | walk1 | (dsimp only; walk1)))
  rename _ ∧ AllLt _ _ => l1
  rename Fr _ _ _ _ => F1; rename News _ _ _ _ => N1
  obtain ⟨lf, rfl, _⟩ := nm_lt l1.1
  refine while_inv (n₀ := l.length) [] (fun n _ nw => ∃ (k : Nat) (i' : Int) (vs : List Value) (t2' : Tok) (rest : List (Addr × Obj)), n + k = l.length ∧ i' = (k : Int) ∧ nw = (lf, listOf vs.toArray k) :: (d, dictOf [⟨PyData.keyHash w.params (Str.ofString "text"), .str (Str.ofString "text") k1, .str T t1⟩, ⟨PyData.keyHash w.params (Str.ofString "at"), .str (Str.ofString "at") k2, .int (i') t2'⟩, ⟨PyData.keyHash w.params (Str.ofString "groups"), .str (Str.ofString "groups") k3, .int 0 t3⟩, ⟨PyData.keyHash w.params (Str.ofString "farthest_back"), .str (Str.ofString "farthest_back") k4, .int 0 t4⟩, ⟨PyData.keyHash w.params (Str.ofString "depth"), .str (Str.ofString "depth") k5, .int 0 t5⟩] 5) :: rest ∧ CharTs rest vs (l.take k) ∧ (x, instObj 594 d) ∈ rest ∧ (∀ p ∈ rest, p.1 ≠ lf) ∧ (∀ p ∈ rest, p.1 ≠ d) ∧ (∀ p ∈ news, p ∈ rest)) F1 N1 ⟨0, i, [], t2, news, by omega, h0, rfl, ⟨by simp, fun i c e => by simp at e⟩, hx, ?_, hne, fun _ hp => hp⟩ ?_
  · intro p hp
    exact Nat.ne_of_lt (ktn_ltOf l1.2 p hp)
  · rintro n u nw h tk ⟨k, i', vs, t2', rest, hk1, hik, rfl, hC, hx', hr1, hr2, hr3⟩ F2 N2
    have hT' : T.length ≤ 10 := by rw [hT, S_length]; omega
    have hi0 : 0 ≤ i' := by omega
    have hi1 : i' ≤ 7 := by omega
    have hlf : d ≠ lf := Nat.ne_of_lt l1.1
    have hxd' : x ≠ d := hxd
    have hvs : vs.length ≤ 10 := by have := hC.1; simp only [List.length_take] at this; omega
    by_cases hkl : k < l.length
    · obtain ⟨c, hc⟩ : ∃ c, l[k]? = some c := ⟨l[k], by simp [hkl]⟩
      have hc' : l[i'.toNat]? = some c := by rw [hik]; simpa using hc
      have hLc : Let c := hL c (List.mem_of_getElem? hc)
      have e0 : Txt.slice T (some i') (some (i' + 1)) = S [c] := by rw [hT]; exact one_signI l i' hi0 c hc'
      have n0 : (!([Str.ofString "", Str.ofString "|", Str.ofString ")"].any fun y => y == S [c])) = true := by rcases hLc with rfl | rfl | rfl | rfl <;> decide +kernel
      have hn : l[(i' + 1).toNat]? = none ∨ ∃ c', l[(i' + 1).toNat]? = some c' ∧ Let c' := by
        rcases hq : l[(i' + 1).toNat]? with _ | c'
        · exact .inl rfl
        · exact .inr ⟨c', rfl, hL c' (List.mem_of_getElem? hq)⟩
      (repeat' (first | (k_unfold; (try dsimp only)) | ((k_here; (with_reducible show wpAny _ _ (compareOp CmpOp.NotIn (Value.str _ _) (Value.ref 435)) _ _ _); k_dflt (refine' ends_not ?k0 ?_; (case k0 => k_in); k_whole))) | (((with_reducible show wpAny _ _ (call (Value.ref 521) _) _ _ _); k_dflt (refine' term_u ?k1 ?k2 ?k3 ?k5 ?kK ?kd ?ku _ _ _ _ _ _ _ _ _ _ _ _ _ _ ?km ?k4 ?kU ?kxd ?kl ?kp ?kq _ _ ?kT ?kc ?kL ?kn ?_; (case k1 => k_asm); (case k2 => k_asm); (case k3 => k_asm); (case k5 => k_asm); (case kK => first | exact rfl | assumption); (case kd => ktr_room); (case ku => ktr_units); (case k4 => k_asm); (case km => k_mem); (case kU => k_updF); (case kxd => assumption); (case kl => first | assumption | omega); (case kp => omega); (case kq => omega); (case kT => assumption); (case kc => assumption); (case kL => assumption); (case kn => assumption); k_whole); (intro r9 ta9 tb9 t9 h9 tk9 l9 F9 N9; (try k_lt l9)); (try dsimp only); (try k_fold))) | (((with_reducible show wpAny _ _ (call (Value.ref 486) _) _ _ _); k_dflt (refine' sign_ok ?k1 ?k2 ?k3 ?k4 ?k5 ?kK ?kd ?ku _ _ _ _ _ _ _ _ _ _ _ _ _ _ ?km ?kn ?kl ?kp ?kq _ ?kz ?_; (case k1 => k_asm); (case k2 => k_asm); (case k3 => k_asm); (case k4 => k_asm); (case k5 => k_asm); (case kK => first | exact rfl | assumption); (case kd => ktr_room); (case ku => ktr_units); (case km => k_mem); (case kn => k_mem); (case kl => first | assumption | omega); (case kp => omega); (case kq => omega); (case kz => assumption); k_whole); (intro t9 h9 tk9 F9 N9); (try dsimp only); (try k_fold))) | ((with_reducible show wpAny _ _ (subscriptTail (Expr.Name _ _) (Expr.Constant _ _ _) _ _) _ _ _); (k_here; (with_reducible show wpAny _ _ (subscriptTail _ _ (Value.ref _) (Value.int _ _)) _ _ _); (with_unfolding_all refine' item_litK ?k1 ?k2 ?k3 ?k4 ?_ ?k6; (case k1 => exact News.isList (by k_asm) (by k_mem)); (case k2 => decide); (case k3 => decide); (case k4 => rfl); (case k6 => with_unfolding_all rfl); k_whole))) | (k_end; kc_close) | walk1 | (dsimp only; walk1) | (leave1; walk_say "STEP leave1"; (try dsimp only)) | fail "no step"))
      rename _ ∧ _ ∧ AllLt _ _ => l9
      rename News _ _ _ _ => N9; rename Fr _ _ _ _ => F9
      obtain ⟨r, rfl, _⟩ := nm_lt l9.1
      refine ⟨_, _, _, _, l.length - (k + 1), rfl, F9, news_rot N9, by omega, fun _ _ => rfl, k + 1, i' + 1, vs ++ [.ref r], _, _, by omega, by omega, by rw [List.push_toArray], ?_, List.mem_cons_of_mem _ hx', ?_, ?_, fun p hp => List.mem_cons_of_mem _ (hr3 p hp)⟩
      · rw [List.take_add_one, hc]
        exact hC.snoc
      · intro p hp
        rcases List.mem_cons.mp hp with rfl | hp
        · exact Nat.ne_of_gt l9.1
        · exact hr1 p hp
      · intro p hp
        rcases List.mem_cons.mp hp with rfl | hp
        · exact Nat.ne_of_gt l9.2.1
        · exact hr2 p hp
    · have hkl' : k = l.length := by omega
      subst hkl'
      have e0 : Txt.slice T (some i') (some (i' + 1)) = S [] := by rw [hT]; exact no_signI l i' hi0 (by rw [hik]; simp)
      have n0 : (!([Str.ofString "", Str.ofString "|", Str.ofString ")"].any fun y => y == S [])) = false := by decide +kernel
      (repeat' (first | (k_unfold; (try dsimp only)) | ((k_here; (with_reducible show wpAny _ _ (compareOp CmpOp.NotIn (Value.str _ _) (Value.ref 435)) _ _ _); k_dflt (refine' ends_not ?k0 ?_; (case k0 => k_in); k_whole))) | (((with_reducible show wpAny _ _ (call (Value.ref 521) _) _ _ _); k_dflt (refine' term_u ?k1 ?k2 ?k3 ?k5 ?kK ?kd ?ku _ _ _ _ _ _ _ _ _ _ _ _ _ _ ?km ?k4 ?kU ?kxd ?kl ?kp ?kq _ _ ?kT ?kc ?kL ?kn ?_; (case k1 => k_asm); (case k2 => k_asm); (case k3 => k_asm); (case k5 => k_asm); (case kK => first | exact rfl | assumption); (case kd => ktr_room); (case ku => ktr_units); (case k4 => k_asm); (case km => k_mem); (case kU => k_updF); (case kxd => assumption); (case kl => first | assumption | omega); (case kp => omega); (case kq => omega); (case kT => assumption); (case kc => assumption); (case kL => assumption); (case kn => assumption); k_whole); (intro r9 ta9 tb9 t9 h9 tk9 l9 F9 N9; (try k_lt l9)); (try dsimp only); (try k_fold))) | (((with_reducible show wpAny _ _ (call (Value.ref 486) _) _ _ _); k_dflt (refine' sign_ok ?k1 ?k2 ?k3 ?k4 ?k5 ?kK ?kd ?ku _ _ _ _ _ _ _ _ _ _ _ _ _ _ ?km ?kn ?kl ?kp ?kq _ ?kz ?_; (case k1 => k_asm); (case k2 => k_asm); (case k3 => k_asm); (case k4 => k_asm); (case k5 => k_asm); (case kK => first | exact rfl | assumption); (case kd => ktr_room); (case ku => ktr_units); (case km => k_mem); (case kn => k_mem); (case kl => first | assumption | omega); (case kp => omega); (case kq => omega); (case kz => assumption); k_whole); (intro t9 h9 tk9 F9 N9); (try dsimp only); (try k_fold))) | ((with_reducible show wpAny _ _ (subscriptTail (Expr.Name _ _) (Expr.Constant _ _ _) _ _) _ _ _); (k_here; (with_reducible show wpAny _ _ (subscriptTail _ _ (Value.ref _) (Value.int _ _)) _ _ _); (with_unfolding_all refine' item_litK ?k1 ?k2 ?k3 ?k4 ?_ ?k6; (case k1 => exact News.isList (by k_asm) (by k_mem)); (case k2 => decide); (case k3 => decide); (case k4 => rfl); (case k6 => with_unfolding_all rfl); k_whole))) | (k_end; kc_close) | walk1 | (dsimp only; walk1) | (leave1; walk_say "STEP leave1"; (try dsimp only)) | fail "no step"))
      rename News _ _ _ _ => N9; rename Fr _ _ _ _ => F9
      rw [List.take_length] at hC
      rw [hik] at N9
      apply hret _ _ _ vs rest t2' _ _ hC hx' hr3 hr2 F9
      ((refine cb_drop (by assumption) ?_; (repeat (refine List.forall_mem_cons.mpr ⟨by k_mem, ?_⟩)); (first | exact List.forall_mem_nil _ | (intro p hp; k_mem))))
theorem alt_u (B : Below A₀ base outer h₀) (F : Fr h₀ L s.heap m) (X : (hd.heap_1_39 w.params).In h₀)  (T : Top p loose mean mg mb h₀) (hk : cs.kind = .function) (hdd : dp + 12 < recursionLimit) (hu : un + 120 < cLine) (x d : Addr) (k1 k2 k3 k4 k5 t1 t2 t3 t4 t5 : Tok) (Tp : Str) (i : Int) {nw : List (Addr × Obj)} {g : Obj → List (Addr × Obj)} (hx : (x, instObj 594 d) ∈ nw) (N : News h₀ L s.heap nw) (U : UpdF d (dictOf [⟨PyData.keyHash w.params (Str.ofString "text"), .str (Str.ofString "text") k1, .str Tp t1⟩, ⟨PyData.keyHash w.params (Str.ofString "at"), .str (Str.ofString "at") k2, .int (i) t2⟩, ⟨PyData.keyHash w.params (Str.ofString "groups"), .str (Str.ofString "groups") k3, .int 0 t3⟩, ⟨PyData.keyHash w.params (Str.ofString "farthest_back"), .str (Str.ofString "farthest_back") k4, .int 0 t4⟩, ⟨PyData.keyHash w.params (Str.ofString "depth"), .str (Str.ofString "depth") k5, .int 0 t5⟩] 5) nw g) (hxd : x ≠ d) (l : List Nat) (hT : Tp = S l) (hl : l.length ≤ 7) (hL : ∀ c ∈ l, Let c) (h0 : i = 0)
  (hret : ∀ (TR SQ : Addr) (z : Tok) (vs : List Value) (rest : List (Addr × Obj)) (t2' : Tok) h' tk', CharTs rest vs l → (x, instObj 594 d) ∈ rest → (∀ p ∈ nw, p.1 ≠ d → p ∈ rest) → Fr h₀ L h' m → News h₀ L h' ((TR, ({ cls := .type "tuple", data := .seq #[.str (Str.ofString "seq") z, .ref SQ] } : Obj)) :: (SQ, ({ cls := .type "tuple", data := .seq vs.toArray } : Obj)) :: (d, dictOf [⟨PyData.keyHash w.params (Str.ofString "text"), .str (Str.ofString "text") k1, .str Tp t1⟩, ⟨PyData.keyHash w.params (Str.ofString "at"), .str (Str.ofString "at") k2, .int ((l.length : Nat)) t2'⟩, ⟨PyData.keyHash w.params (Str.ofString "groups"), .str (Str.ofString "groups") k3, .int 0 t3⟩, ⟨PyData.keyHash w.params (Str.ofString "farthest_back"), .str (Str.ofString "farthest_back") k4, .int 0 t4⟩, ⟨PyData.keyHash w.params (Str.ofString "depth"), .str (Str.ofString "depth") k5, .int 0 t5⟩] 5) :: rest) → Q (.ref TR) {s with heap := h', toks := tk'}) :
  wpAny (model prog w) (ktrTop dp un gd cn cs L a ccd cl outer) (call (.ref 514) [.ref x]) Q E s := by
  obtain ⟨pre, post, rfl, hg, h1, h2⟩ := U.split
  have hx' : (x, instObj 594 d) ∈ pre ++ post := by
    rcases List.mem_append.mp hx with hx | hx
    · exact List.mem_append_left _ hx
    · rcases List.mem_cons.mp hx with e | hx
      · exact absurd (congrArg Prod.fst e) hxd
      · exact List.mem_append_right _ hx
  refine alt_ok (news := pre ++ post) B F X T hk hdd hu x d k1 k2 k3 k4 k5 t1 t2 t3 t4 t5 Tp i hx' (news_head N) (fun p hp => (List.mem_append.mp hp).elim (h1 p) (h2 p)) hxd l hT hl hL h0 ?_
  intro TR SQ z vs rest t2' h' tk' hC hx9 hs _ F' N'
  refine hret TR SQ z vs rest t2' h' tk' hC hx9 (fun p hp hpd => hs p ?_) F' N'
  rcases List.mem_append.mp hp with hp | hp
  · exact List.mem_append_left _ hp
  · rcases List.mem_cons.mp hp with rfl | hp
    · exact absurd rfl hpd
    · exact List.mem_append_right _ hp
end
end
section
section
variable {w : World} {dp un : Nat} {gd : Option (List Code)} {cn : Str} {cs : Scope} {a : Addr} {ccd : Value} {cl : List (Str × Addr)} {outer : List Env} {A₀ : Around} {base h₀ : Heap} {L : Addr} {m : Str → Option Value} {news : List (Addr × Obj)} {s : Shared} {p : Program} {loose : List Str} {mean : ExcName → Option Value} {mg mb : Str → Option Value} {Q E : Value → Shared → Prop}

theorem parse_ok (B : Below A₀ base outer h₀) (F : Fr h₀ L s.heap m) (X : (hd.heap_1_39 w.params).In h₀) (N : News h₀ L s.heap news) (T : Top p loose mean mg mb h₀) (hk : cs.kind = .function) (hdd : dp + 16 < recursionLimit) (hu : un + 160 < cLine) (l : List Nat) (hl : l.length ≤ 7) (hL : ∀ c ∈ l, Let c) (y : Str) (t t2 : Tok) (hy : y = Str.ofString "g" ∨ y = Str.ofString "gm" ∨ y = Str.ofString "gi")
  (hret : ∀ (R TR SQ : Addr) (z1 z2 : Tok) (vs : List Value) (rest : List (Addr × Obj)) h' tk', CharTs rest vs l → (∀ p ∈ news, p ∈ rest) → Fr h₀ L h' m → News h₀ L h' ((R, ({ cls := .type "tuple", data := .seq #[.ref TR, .int 0 z1] } : Obj)) :: (TR, ({ cls := .type "tuple", data := .seq #[.str (Str.ofString "seq") z2, .ref SQ] } : Obj)) :: (SQ, ({ cls := .type "tuple", data := .seq vs.toArray } : Obj)) :: rest) → Q (.ref R) {s with heap := h', toks := tk'}) :
  wpAny (model prog w) (ktrTop dp un gd cn cs L a ccd cl outer) (call (.ref 605) [.str (S l) t, .str y t2]) Q E s := by
  have ep : (Txt.slice (S l) (some ((l.length : Nat) : Int)) (some (((l.length : Nat) : Int) + ((Str.ofString "|").length : Nat))) == Str.ofString "|") = false := no_word_endI _ _ (by omega) (by simp) _ 124 (by decide)
  have ez : Txt.slice (S l) (some ((l.length : Nat) : Int)) (some (((l.length : Nat) : Int) + 1)) = S [] := no_signI _ _ (by omega) (by simp)
  have hl' : (S l).length ≤ 10 := by rw [S_length]; omega
  refine wpAny_call ?_
  cell_enter
  (repeat' (first | (k_unfold; (try dsimp only)) | (((with_reducible show wpAny _ _ (call (Value.ref 514) _) _ _ _); k_dflt (refine' alt_u ?k1 ?k2 ?k3 ?k5 ?kK ?kd ?ku _ _ _ _ _ _ _ _ _ _ _ _ _ _ ?km ?k4 ?kU ?kxd _ ?kT ?kl ?kL ?kz ?_; (case k1 => k_asm); (case k2 => k_asm); (case k3 => k_asm); (case k5 => k_asm); (case kK => first | exact rfl | assumption); (case kd => ktr_room); (case ku => ktr_units); (case k4 => k_asm); (case km => k_mem); (case kU => k_updF); (case kxd => (refine neN ?_; omega)); (case kT => rfl); (case kl => assumption); (case kL => assumption); (case kz => rfl); k_whole); (intro TR9 SQ9 z9 vs9 rest9 t9 h9 tk9 hC9 hx9 hs9 F9 N9); (try dsimp only); (try k_fold))) | (((with_reducible show wpAny _ _ (call (Value.ref 500) _) _ _ _); k_dflt (refine' skip_no ?k1 ?k2 ?k3 ?k4 ?k5 ?kK ?kd ?ku _ _ _ _ _ _ _ _ _ _ _ _ _ _ ?km ?kn ?kl ?kp ?kq _ _ ?kv ?kz ?_; (case k1 => k_asm); (case k2 => k_asm); (case k3 => k_asm); (case k4 => k_asm); (case k5 => k_asm); (case kK => first | exact rfl | assumption); (case kd => ktr_room); (case ku => ktr_units); (case km => k_mem); (case kn => k_mem); (case kl => first | assumption | omega); (case kp => omega); (case kq => omega); (case kv => first | assumption | decide +kernel); (case kz => assumption); k_whole); (intro h9 tk9 F9 N9); (try dsimp only); (try k_fold))) | (((with_reducible show wpAny _ _ (call (Value.ref 486) _) _ _ _); k_dflt (refine' sign_ok ?k1 ?k2 ?k3 ?k4 ?k5 ?kK ?kd ?ku _ _ _ _ _ _ _ _ _ _ _ _ _ _ ?km ?kn ?kl ?kp ?kq _ ?kz ?_; (case k1 => k_asm); (case k2 => k_asm); (case k3 => k_asm); (case k4 => k_asm); (case k5 => k_asm); (case kK => first | exact rfl | assumption); (case kd => ktr_room); (case ku => ktr_units); (case km => k_mem); (case kn => k_mem); (case kl => first | assumption | omega); (case kp => omega); (case kq => omega); (case kz => assumption); k_whole); (intro t9 h9 tk9 F9 N9); (try dsimp only); (try k_fold))) | (((with_reducible show wpAny _ _ (call (Value.ref 458) _) _ _ _); k_dflt (refine' parse_flags_ok ?k1 ?k2 ?k3 ?k4 ?k5 ?kK ?kd ?ku _ _ ?kx ?_; (case k1 => k_asm); (case k2 => k_asm); (case k3 => k_asm); (case k4 => k_asm); (case k5 => k_asm); (case kK => first | exact rfl | assumption); (case kd => ktr_room); (case ku => ktr_units); (case kx => assumption); k_whole); (intro v9 h9 tk9 F9 N9); (try dsimp only); (try k_fold))) | ((with_reducible show wpAny _ _ (subscriptTail (Expr.Name _ _) (Expr.Constant _ _ _) _ _) _ _ _); (k_here; (with_reducible show wpAny _ _ (subscriptTail _ _ (Value.ref _) (Value.int _ _)) _ _ _); (with_unfolding_all refine' item_litK ?k1 ?k2 ?k3 ?k4 ?_ ?k6; (case k1 => exact News.isList (by k_asm) (by k_mem)); (case k2 => decide); (case k3 => decide); (case k4 => rfl); (case k6 => with_unfolding_all rfl); k_whole))) | (k_end; kc_close) | walk1 | (dsimp only; walk1) | (leave1; walk_say "STEP leave1"; (try dsimp only)) | fail "no step"))
  have hs := ‹∀ p ∈ (_ : List (Addr × Obj)), p.1 ≠ _ → p ∈ _›
  have hlt := ‹∀ p ∈ news, p.1 < _›
  apply hret
  · assumption
  · exact fun p hp => hs p (by k_mem) (Nat.ne_of_lt (hlt p hp))
  · assumption
  · ((refine cb_drop (by assumption) ?_; (repeat (refine List.forall_mem_cons.mpr ⟨by k_mem, ?_⟩)); (first | exact List.forall_mem_nil _ | (intro p hp; k_mem))))
end
end
section
section
variable {w : World} {dp un : Nat} {gd : Option (List Code)} {cn : Str} {cs : Scope} {a : Addr} {ccd : Value} {cl : List (Str × Addr)} {outer : List Env} {A₀ : Around} {base h₀ : Heap} {L : Addr} {m : Str → Option Value} {news : List (Addr × Obj)} {s : Shared} {p : Program} {loose : List Str} {mean : ExcName → Option Value} {mg mb : Str → Option Value} {Q E : Value → Shared → Prop}

theorem upd_split_mem {q : Addr × Obj} {d : Addr} {o : Obj} {pre post : List (Addr × Obj)} (hq : q ∈ pre ++ (d, o) :: post) (hd : q.1 ≠ d) : q ∈ pre ++ post := by
  rcases List.mem_append.mp hq with h | h
  · exact List.mem_append_left _ h
  · rcases List.mem_cons.mp h with e | h
    · exact absurd (congrArg Prod.fst e) hd
    · exact List.mem_append_right _ h
theorem news_put {h : Heap} {pre post : List (Addr × Obj)} {q : Addr × Obj} (N : News h₀ L h (q :: (pre ++ post))) : News h₀ L h (pre ++ q :: post) := fun p hp => N p (by
  rcases List.mem_append.mp hp with hp | hp
  · exact List.mem_cons_of_mem _ (List.mem_append_left _ hp)
  · rcases List.mem_cons.mp hp with rfl | hp
    · exact List.mem_cons_self
    · exact List.mem_cons_of_mem _ (List.mem_append_right _ hp))
theorem lt_split {d r : Addr} {o : Obj} {pre post : List (Addr × Obj)} (h : ∀ p ∈ pre ++ post, p.1 < r) (hd : d < r) : ∀ p ∈ pre ++ (d, o) :: post, p.1 < r := by
  intro p hp
  rcases List.mem_append.mp hp with hp | hp
  · exact h p (List.mem_append_left _ hp)
  · rcases List.mem_cons.mp hp with rfl | hp
    · exact hd
    · exact h p (List.mem_append_right _ hp)

theorem emit_ok (B : Below A₀ base outer h₀) (F : Fr h₀ L s.heap m) (X : (hd.heap_1_39 w.params).In h₀) (T : Top p loose mean mg mb h₀) (hk : cs.kind = .function) (hdd : dp + 4 < recursionLimit) (hu : un + 40 < cLine) (x d sl : Addr) (e1 e2 u1 : Tok) (ws : List Value) (kk : Nat) (hx : (x, instObj 313 d) ∈ news) (hd : (d, dictOf [⟨PyData.keyHash w.params (Str.ofString "steps"), .str (Str.ofString "steps") e1, .ref sl⟩, ⟨PyData.keyHash w.params (Str.ofString "loops"), .str (Str.ofString "loops") e2, .int 0 u1⟩] 2) ∈ news) (N : News h₀ L s.heap ((sl, listOf ws.toArray kk) :: news)) (hne : ∀ p ∈ news, p.1 ≠ sl) (hws : ws.length ≤ 10) (v : Value)
  (hret : ∀ i t h' tk', Fr h₀ L h' m → News h₀ L h' ((sl, listOf (ws ++ [v]).toArray (kk + 1)) :: news) → Q (.int i t) {s with heap := h', toks := tk'}) :
  wpAny (model prog w) (ktrTop dp un gd cn cs L a ccd cl outer) (call (.ref 275) [.ref x, v]) Q E s := by
  have hne1 : x ≠ sl := hne _ hx
  have hne2 : d ≠ sl := hne _ hd
  refine wpAny_call ?_
  cell_enter
  (repeat' (first | (k_unfold; (try dsimp only)) | ((with_reducible show wpAny _ _ (call (Value.builtin "len") _) _ _ _); (k_here; (with_reducible show wpAny _ _ (call (Value.builtin "len") [Value.ref _]) _ _ _); k_dflt (refine' kst_len ?k1 ?k2 ?k3 ?k4 ?_; (case k1 => k_asm); (case k2 => k_mem); (case k3 => first | assumption | exact rfl); (case k4 => ((try simp only [List.length_append, List.length_cons, List.length_nil]); omega)); k_whole))) | ((with_reducible show wpAny _ _ (subscriptTail (Expr.Name _ _) (Expr.Constant _ _ _) _ _) _ _ _); (k_here; (with_reducible show wpAny _ _ (subscriptTail _ _ (Value.ref _) (Value.int _ _)) _ _ _); (with_unfolding_all refine' item_litK ?k1 ?k2 ?k3 ?k4 ?_ ?k6; (case k1 => exact News.isList (by k_asm) (by k_mem)); (case k2 => decide); (case k3 => decide); (case k4 => rfl); (case k6 => with_unfolding_all rfl); k_whole))) | (k_end; kc_close) | walk1 | (dsimp only; walk1) | (leave1; walk_say "STEP leave1"; (try dsimp only)) | fail "no step"))
  exact hret _ _ _ _ (by assumption) (by assumption)

theorem emit_u (B : Below A₀ base outer h₀) (F : Fr h₀ L s.heap m) (X : (hd.heap_1_39 w.params).In h₀) (T : Top p loose mean mg mb h₀) (hk : cs.kind = .function) (hdd : dp + 4 < recursionLimit) (hu : un + 40 < cLine) {nw : List (Addr × Obj)} {g : Obj → List (Addr × Obj)}  (x d sl : Addr) (e1 e2 u1 : Tok) (ws : List Value) (kk : Nat) (v : Value) (hx : (x, instObj 313 d) ∈ nw) (hd : (d, dictOf [⟨PyData.keyHash w.params (Str.ofString "steps"), .str (Str.ofString "steps") e1, .ref sl⟩, ⟨PyData.keyHash w.params (Str.ofString "loops"), .str (Str.ofString "loops") e2, .int 0 u1⟩] 2) ∈ nw) (N : News h₀ L s.heap nw) (U : UpdF sl (listOf ws.toArray kk) nw g) (hxs : x ≠ sl) (hds : d ≠ sl) (hws : ws.length ≤ 10)
  (hret : ∀ i t h' tk', Fr h₀ L h' m → News h₀ L h' (g (listOf (ws ++ [v]).toArray (kk + 1))) → Q (.int i t) {s with heap := h', toks := tk'}) :
  wpAny (model prog w) (ktrTop dp un gd cn cs L a ccd cl outer) (call (.ref 275) [.ref x, v]) Q E s := by
  obtain ⟨pre, post, rfl, hg, h1, h2⟩ := U.split
  refine emit_ok (news := pre ++ post) B F X T hk hdd hu x d sl e1 e2 u1 ws kk (upd_split_mem hx hxs) (upd_split_mem hd hds) (news_head N) (fun p hp => (List.mem_append.mp hp).elim (h1 p) (h2 p)) hws v ?_
  intro i t h' tk' F' N'
  exact hret i t h' tk' F' (by rw [hg]; exact news_put N')

theorem plain_char (B : Below A₀ base outer h₀) (F : Fr h₀ L s.heap m) (X : (hd.heap_1_39 w.params).In h₀) (N : News h₀ L s.heap news) (T : Top p loose mean mg mb h₀) (hk : cs.kind = .function) (hdd : dp + 4 < recursionLimit) (hu : un + 40 < cLine) (x ac : Addr) (c : Nat) (t u : Tok) (ha : (ac, chT c t u) ∈ news)
  (hret : ∀ r t u h' tk', (∀ p ∈ news, p.1 < r) → Fr h₀ L h' m → News h₀ L h' ((r, ({ cls := .type "tuple", data := .seq #[.int 0 t, .int c u] } : Obj)) :: news) → Q (.ref r) {s with heap := h', toks := tk'}) :
  wpAny (model prog w) (ktrTop dp un gd cn cs L a ccd cl outer) (call (.ref 289) [.ref x, .ref ac]) Q E s := by
  unfold chT at ha
  refine wpAny_call ?_
  cell_enter
  (repeat' (first | (k_unfold; (try dsimp only)) | ((with_reducible show wpAny _ _ (call (Value.builtin "len") _) _ _ _); (k_here; (with_reducible show wpAny _ _ (call (Value.builtin "len") [Value.ref _]) _ _ _); k_dflt (refine' kst_len ?k1 ?k2 ?k3 ?k4 ?_; (case k1 => k_asm); (case k2 => k_mem); (case k3 => first | assumption | exact rfl); (case k4 => ((try simp only [List.length_append, List.length_cons, List.length_nil]); omega)); k_whole))) | ((with_reducible show wpAny _ _ (subscriptTail (Expr.Name _ _) (Expr.Constant _ _ _) _ _) _ _ _); (k_here; (with_reducible show wpAny _ _ (subscriptTail _ _ (Value.ref _) (Value.int _ _)) _ _ _); (with_unfolding_all refine' item_litK ?k1 ?k2 ?k3 ?k4 ?_ ?k6; (case k1 => exact News.isList (by k_asm) (by k_mem)); (case k2 => decide); (case k3 => decide); (case k4 => rfl); (case k6 => with_unfolding_all rfl); k_whole))) | (k_end; kc_close) | walk1 | (dsimp only; walk1) | (leave1; walk_say "STEP leave1"; (try dsimp only)) | fail "no step"))
  exact hret _ _ _ _ _ (by assumption) (by assumption) (by assumption)

def stT (c : Nat) (t u : Tok) : Obj := { cls := .type "tuple", data := .seq #[.int 0 t, .int c u] }
theorem put_char (B : Below A₀ base outer h₀) (F : Fr h₀ L s.heap m) (X : (hd.heap_1_39 w.params).In h₀) (T : Top p loose mean mg mb h₀) (hk : cs.kind = .function) (hdd : dp + 6 < recursionLimit) (hu : un + 60 < cLine) (x d sl : Addr) (e1 e2 u1 : Tok) (ws : List Value) (kk : Nat) (hx : (x, instObj 313 d) ∈ news) (hd : (d, dictOf [⟨PyData.keyHash w.params (Str.ofString "steps"), .str (Str.ofString "steps") e1, .ref sl⟩, ⟨PyData.keyHash w.params (Str.ofString "loops"), .str (Str.ofString "loops") e2, .int 0 u1⟩] 2) ∈ news) (N : News h₀ L s.heap ((sl, listOf ws.toArray kk) :: news)) (hne : ∀ p ∈ news, p.1 ≠ sl) (hws : ws.length ≤ 10) (ac : Addr) (c : Nat) (t u : Tok) (ha : (ac, chT c t u) ∈ news)
  (hret : ∀ r t u h' tk', (∀ p ∈ news, p.1 < r) → sl < r → Fr h₀ L h' m → News h₀ L h' ((r, stT c t u) :: (sl, listOf (ws ++ [Value.ref r]).toArray (kk + 1)) :: news) → Q .none {s with heap := h', toks := tk'}) :
  wpAny (model prog w) (ktrTop dp un gd cn cs L a ccd cl outer) (call (.ref 282) [.ref x, .ref ac]) Q E s := by
  have hne1 : x ≠ sl := hne _ hx
  have hne2 : d ≠ sl := hne _ hd
  have ha' := ha
  unfold chT at ha
  refine wpAny_call ?_
  cell_enter
  (repeat' (first | (k_unfold; (try dsimp only)) | (((with_reducible show wpAny _ _ (call (Value.ref 289) _) _ _ _); k_dflt (refine' plain_char ?k1 ?k2 ?k3 ?k4 ?k5 ?kK ?kd ?ku _ _ _ _ _ ?km ?_; (case k1 => k_asm); (case k2 => k_asm); (case k3 => k_asm); (case k4 => k_asm); (case k5 => k_asm); (case kK => first | exact rfl | assumption); (case kd => ktr_room); (case ku => ktr_units); (case km => k_mem); k_whole); (intro r9 t9 u9 h9 tk9 l9 F9 N9); (replace l9 := allLt_of l9); (dsimp only [AllLt] at l9); (try dsimp only); (try k_fold))) | (((with_reducible show wpAny _ _ (call (Value.ref 275) _) _ _ _); k_dflt (refine' emit_u ?k1 ?k2 ?k3 ?k5 ?kK ?kd ?ku _ _ _ _ _ _ _ _ _ ?km ?kn ?k4 ?kU ?kp ?kq ?kw ?_; (case k1 => k_asm); (case k2 => k_asm); (case k3 => k_asm); (case k5 => k_asm); (case kK => first | exact rfl | assumption); (case kd => ktr_room); (case ku => ktr_units); (case k4 => k_asm); (case km => k_mem); (case kn => k_mem); (case kU => k_updF); (case kp => assumption); (case kq => assumption); (case kw => assumption); k_whole); (intro i9 t9 h9 tk9 F9 N9); (try dsimp only); (try k_fold))) | ((with_reducible show wpAny _ _ (call (Value.builtin "len") _) _ _ _); (k_here; (with_reducible show wpAny _ _ (call (Value.builtin "len") [Value.ref _]) _ _ _); k_dflt (refine' kst_len ?k1 ?k2 ?k3 ?k4 ?_; (case k1 => k_asm); (case k2 => k_mem); (case k3 => first | assumption | exact rfl); (case k4 => ((try simp only [List.length_append, List.length_cons, List.length_nil]); omega)); k_whole))) | ((with_reducible show wpAny _ _ (subscriptTail (Expr.Name _ _) (Expr.Constant _ _ _) _ _) _ _ _); (k_here; (with_reducible show wpAny _ _ (subscriptTail _ _ (Value.ref _) (Value.int _ _)) _ _ _); (with_unfolding_all refine' item_litK ?k1 ?k2 ?k3 ?k4 ?_ ?k6; (case k1 => exact News.isList (by k_asm) (by k_mem)); (case k2 => decide); (case k3 => decide); (case k4 => rfl); (case k6 => with_unfolding_all rfl); k_whole))) | (k_end; kc_close) | walk1 | (dsimp only; walk1) | (leave1; walk_say "STEP leave1"; (try dsimp only)) | fail "no step"))
  rename _ ∧ AllLt _ _ => l1
  exact hret _ _ _ _ _ (ktn_ltOf l1.2) l1.1 (by assumption) (by assumption)
end
end
section
section
variable {w : World} {dp un : Nat} {gd : Option (List Code)} {cn : Str} {cs : Scope} {a : Addr} {ccd : Value} {cl : List (Str × Addr)} {outer : List Env} {A₀ : Around} {base h₀ : Heap} {L : Addr} {m : Str → Option Value} {news : List (Addr × Obj)} {s : Shared} {p : Program} {loose : List Str} {mean : ExcName → Option Value} {mg mb : Str → Option Value} {Q E : Value → Shared → Prop}

/-- a row of references to objects of one form -/
def RefTs (f : Nat → Tok → Tok → Obj) (nw : List (Addr × Obj)) (vs : List Value) (l : List Nat) : Prop := vs.length = l.length ∧ ∀ (i c : Nat), l[i]? = some c → ∃ a t u, vs[i]? = some (.ref a) ∧ (a, f c t u) ∈ nw
theorem RefTs.mono {f : Nat → Tok → Tok → Obj} {nw nw' : List (Addr × Obj)} {vs : List Value} {l : List Nat} (h : RefTs f nw vs l) (k : ∀ p ∈ nw, p ∈ nw') : RefTs f nw' vs l :=
  ⟨h.1, fun i c e => let ⟨a, t, u, x, y⟩ := h.2 i c e; ⟨a, t, u, x, k _ y⟩⟩
theorem RefTs.snoc {f : Nat → Tok → Tok → Obj} {nw : List (Addr × Obj)} {vs : List Value} {l : List Nat} {a : Addr} {c : Nat} {t u : Tok} (h : RefTs f nw vs l) : RefTs f ((a, f c t u) :: nw) (vs ++ [.ref a]) (l ++ [c]) := by
  refine ⟨by simp [h.1], fun i e he => ?_⟩
  by_cases hi : i < l.length
  · rw [List.getElem?_append_left hi] at he
    obtain ⟨b, t', u', x, y⟩ := h.2 i e he
    refine ⟨b, t', u', ?_, List.mem_cons_of_mem _ y⟩
    rw [List.getElem?_append_left (by rw [h.1]; exact hi)]
    exact x
  · have hl := (List.getElem?_eq_some_iff.mp he).1
    have hi' : i = l.length := by simp at hl; omega
    subst hi'
    rw [List.getElem?_append_right (Nat.le_refl _), Nat.sub_self] at he
    obtain rfl : c = e := by simpa using he
    refine ⟨a, t, u, ?_, List.mem_cons_self⟩
    rw [← h.1, List.getElem?_append_right (Nat.le_refl _), Nat.sub_self]
    rfl
theorem news_own {h : Heap} {own rest : List (Addr × Obj)} {q : Addr × Obj} (N : News h₀ L h (own ++ q :: rest)) : News h₀ L h (q :: (rest ++ own)) := fun p hp => N p (by
  rcases List.mem_cons.mp hp with rfl | hp
  · exact List.mem_append_right _ List.mem_cons_self
  · rcases List.mem_append.mp hp with hp | hp
    · exact List.mem_append_right _ (List.mem_cons_of_mem _ hp)
    · exact List.mem_append_left _ hp)
theorem news_ownB {h : Heap} {own rest : List (Addr × Obj)} {q r : Addr × Obj} (N : News h₀ L h (r :: q :: (rest ++ own))) : News h₀ L h (own ++ q :: r :: rest) := fun p hp => N p (by
  simp only [List.mem_cons, List.mem_append] at hp ⊢
  rcases hp with h | h | h | h
  · exact .inr (.inr (.inr h))
  · exact .inr (.inl h)
  · exact .inl h
  · exact .inr (.inr (.inl h)))
theorem RefTs.nil {f : Nat → Tok → Tok → Obj} {nw : List (Addr × Obj)} : RefTs f nw [] [] := ⟨rfl, fun i c e => by simp at e⟩

theorem put_u (B : Below A₀ base outer h₀) (F : Fr h₀ L s.heap m) (X : (hd.heap_1_39 w.params).In h₀) (T : Top p loose mean mg mb h₀) (hk : cs.kind = .function) (hdd : dp + 6 < recursionLimit) (hu : un + 60 < cLine) {nw : List (Addr × Obj)} {g : Obj → List (Addr × Obj)}  (x d sl : Addr) (e1 e2 u1 : Tok) (ws : List Value) (kk : Nat) (ac : Addr) (c : Nat) (t u : Tok) (hx : (x, instObj 313 d) ∈ nw) (hd : (d, dictOf [⟨PyData.keyHash w.params (Str.ofString "steps"), .str (Str.ofString "steps") e1, .ref sl⟩, ⟨PyData.keyHash w.params (Str.ofString "loops"), .str (Str.ofString "loops") e2, .int 0 u1⟩] 2) ∈ nw) (N : News h₀ L s.heap nw) (U : UpdF sl (listOf ws.toArray kk) nw g) (hxs : x ≠ sl) (hds : d ≠ sl) (has : ac ≠ sl) (hws : ws.length ≤ 10) (ha : (ac, chT c t u) ∈ nw)
  (hret : ∀ r t u h' tk', (∀ p ∈ nw, p.1 < r) → Fr h₀ L h' m → News h₀ L h' ((r, stT c t u) :: g (listOf (ws ++ [Value.ref r]).toArray (kk + 1))) → Q .none {s with heap := h', toks := tk'}) :
  wpAny (model prog w) (ktrTop dp un gd cn cs L a ccd cl outer) (call (.ref 282) [.ref x, .ref ac]) Q E s := by
  obtain ⟨pre, post, rfl, hg, h1, h2⟩ := U.split
  refine put_char (news := pre ++ post) B F X T hk hdd hu x d sl e1 e2 u1 ws kk (upd_split_mem hx hxs) (upd_split_mem hd hds) (news_head N) (fun p hp => (List.mem_append.mp hp).elim (h1 p) (h2 p)) hws ac c t u (upd_split_mem ha has) ?_
  intro r t u h' tk' hr hr2 F' N'
  exact hret r t u h' tk' (lt_split hr hr2) F' (by rw [hg]; exact news_mid N')

theorem put_seq (B : Below A₀ base outer h₀) (F : Fr h₀ L s.heap m) (X : (hd.heap_1_39 w.params).In h₀) (T : Top p loose mean mg mb h₀) (hk : cs.kind = .function) (hdd : dp + 8 < recursionLimit) (hu : un + 80 < cLine) (x d sl : Addr) (e1 e2 u1 : Tok) (ws : List Value) (kk : Nat) (hx : (x, instObj 313 d) ∈ news) (hd : (d, dictOf [⟨PyData.keyHash w.params (Str.ofString "steps"), .str (Str.ofString "steps") e1, .ref sl⟩, ⟨PyData.keyHash w.params (Str.ofString "loops"), .str (Str.ofString "loops") e2, .int 0 u1⟩] 2) ∈ news) (N : News h₀ L s.heap ((sl, listOf ws.toArray kk) :: news)) (hne : ∀ p ∈ news, p.1 ≠ sl) (hws : ws.length ≤ 10) (TR SQ : Addr) (z : Tok) (vs : List Value) (l : List Nat) (hTR : (TR, ({ cls := .type "tuple", data := .seq #[.str (Str.ofString "seq") z, .ref SQ] } : Obj)) ∈ news) (hSQ : (SQ, ({ cls := .type "tuple", data := .seq vs.toArray } : Obj)) ∈ news) (hC : CharTs news vs l) (hl : l.length ≤ 7) (h0 : ws = [])
  (hret : ∀ ws' rest kk' h' tk', RefTs stT rest ws' l → (∀ p ∈ news, p ∈ rest) → (∀ p ∈ rest, p.1 ≠ sl) → Fr h₀ L h' m → News h₀ L h' ((sl, listOf ws'.toArray kk') :: rest) → Q .none {s with heap := h', toks := tk'}) :
  wpAny (model prog w) (ktrTop dp un gd cn cs L a ccd cl outer) (call (.ref 282) [.ref x, .ref TR]) Q E s := by
  subst h0
  have hne1 : x ≠ sl := hne _ hx
  have hne2 : d ≠ sl := hne _ hd
  refine wpAny_call ?_
  cell_enter
  (repeat ((fail_if_success (with_reducible show wpAny _ _ (pyIter _) _ _ _)); first | (k_unfold; (try dsimp only)) | (((with_reducible show wpAny _ _ (call (Value.ref 282) _) _ _ _); k_dflt (refine' put_u ?k1 ?k2 ?k3 ?k5 ?kK ?kd ?ku _ _ _ _ _ _ _ _ _ _ _ _ ?km ?kn ?k4 ?kU ?kp ?kq ?kr ?kw ?ka ?_; (case k1 => k_asm); (case k2 => k_asm); (case k3 => k_asm); (case k5 => k_asm); (case kK => first | exact rfl | assumption); (case kd => ktr_room); (case ku => ktr_units); (case k4 => k_asm); (case km => k_mem); (case kn => k_mem); (case kU => k_updF); (case kp => assumption); (case kq => assumption); (case kr => assumption); (case kw => assumption); (case ka => k_mem); k_whole); (intro r9 t9 u9 h9 tk9 l9 F9 N9); (try dsimp only); (try k_fold))) | ((with_reducible show wpAny _ _ (exec (Stmt.For (Expr.Name _ _) (Expr.Subscript _ _ _) _ _ _) _) _ _ _); (k_here; (rename Fr _ _ _ _ => lF'); (with_unfolding_all refine' For_turns lF' ?_; k_whole))) | ((with_reducible show wpAny _ _ (call (Value.builtin "len") _) _ _ _); (k_here; (with_reducible show wpAny _ _ (call (Value.builtin "len") [Value.ref _]) _ _ _); k_dflt (refine' kst_len ?k1 ?k2 ?k3 ?k4 ?_; (case k1 => k_asm); (case k2 => k_mem); (case k3 => first | assumption | exact rfl); (case k4 => ((try simp only [List.length_append, List.length_cons, List.length_nil]); omega)); k_whole))) | ((with_reducible show wpAny _ _ (subscriptTail (Expr.Name _ _) (Expr.Constant _ _ _) _ _) _ _ _); (k_here; (with_reducible show wpAny _ _ (subscriptTail _ _ (Value.ref _) (Value.int _ _)) _ _ _); (with_unfolding_all refine' item_litK ?k1 ?k2 ?k3 ?k4 ?_ ?k6; (case k1 => exact News.isList (by k_asm) (by k_mem)); (case k2 => decide); (case k3 => decide); (case k4 => rfl); (case k6 => with_unfolding_all rfl); k_whole))) | walk1 | (dsimp only; walk1)))
  rename Fr _ _ _ _ => F1; rename News _ _ _ _ => N1
  have hSQ' := N1 _ (List.mem_cons_of_mem _ hSQ)
  refine' turns_tupG (l := SQ) (vs := vs) [Str.ofString "term"] ?hh ?hl ?hlL F1 N1 (fun i _ nw => ∃ ws rest kk, nw = (sl, listOf ws.toArray kk) :: rest ∧ RefTs stT rest ws (l.take i) ∧ (∀ p ∈ news, p ∈ rest) ∧ (∀ p ∈ rest, p.1 ≠ sl)) ?h0 ?_ ?_
  case hh => rfl
  case hl => exact ⟨_, hSQ'.1, rfl, _, rfl⟩
  case hlL => exact hSQ'.2.1.symm
  case h0 => exact ⟨[], news, kk, rfl, by simpa using RefTs.nil, fun _ hp => hp, hne⟩
  · rintro i v u nw h tk own I hv ⟨ws, rest, kk, rfl, hS, hr1, hr2⟩ hI hoI hown F2 N2
    have hi : i < l.length := by rw [← hC.1]; exact (List.getElem?_eq_some_iff.mp hv).1
    obtain ⟨a, t, u, ha, hm⟩ := hC.2 i l[i] (by simp [hi])
    obtain rfl : v = .ref a := by rw [ha] at hv; exact (Option.some.inj hv).symm
    have hm' := hr1 _ hm
    have hx' := hr1 _ hx
    have hd' := hr1 _ hd
    have has : a ≠ sl := hr2 _ hm'
    have hws : ws.length ≤ 10 := by have := hS.1; simp only [List.length_take] at this; omega
    have hos : ∀ p ∈ own, p.1 ≠ sl := fun p hp => (hown p hp).elim (fun e => e ▸ (hI _ List.mem_cons_self).symm) (fun e => e ▸ hne _ hSQ)
    have hsI : sl ≠ I := hI _ List.mem_cons_self
    have hro : ∀ p ∈ rest ++ own, p.1 ≠ sl := List.forall_mem_append.mpr ⟨hr2, hos⟩
    have N3 := news_own N2
    clear N2
    (repeat' (first | (k_unfold; (try dsimp only)) | (((with_reducible show wpAny _ _ (call (Value.ref 282) _) _ _ _); k_dflt (refine' put_u ?k1 ?k2 ?k3 ?k5 ?kK ?kd ?ku _ _ _ _ _ _ _ _ _ _ _ _ ?km ?kn ?k4 ?kU ?kp ?kq ?kr ?kw ?ka ?_; (case k1 => k_asm); (case k2 => k_asm); (case k3 => k_asm); (case k5 => k_asm); (case kK => first | exact rfl | assumption); (case kd => ktr_room); (case ku => ktr_units); (case k4 => k_asm); (case km => k_mem); (case kn => k_mem); (case kU => k_updF); (case kp => assumption); (case kq => assumption); (case kr => assumption); (case kw => assumption); (case ka => k_mem); k_whole); (intro r9 t9 u9 h9 tk9 l9 F9 N9); (try dsimp only); (try k_fold))) | ((with_reducible show wpAny _ _ (exec (Stmt.For (Expr.Name _ _) (Expr.Subscript _ _ _) _ _ _) _) _ _ _); (k_here; (rename Fr _ _ _ _ => lF'); (with_unfolding_all refine' For_turns lF' ?_; k_whole))) | ((with_reducible show wpAny _ _ (call (Value.builtin "len") _) _ _ _); (k_here; (with_reducible show wpAny _ _ (call (Value.builtin "len") [Value.ref _]) _ _ _); k_dflt (refine' kst_len ?k1 ?k2 ?k3 ?k4 ?_; (case k1 => k_asm); (case k2 => k_mem); (case k3 => first | assumption | exact rfl); (case k4 => ((try simp only [List.length_append, List.length_cons, List.length_nil]); omega)); k_whole))) | ((with_reducible show wpAny _ _ (subscriptTail (Expr.Name _ _) (Expr.Constant _ _ _) _ _) _ _ _); (k_here; (with_reducible show wpAny _ _ (subscriptTail _ _ (Value.ref _) (Value.int _ _)) _ _ _); (with_unfolding_all refine' item_litK ?k1 ?k2 ?k3 ?k4 ?_ ?k6; (case k1 => exact News.isList (by k_asm) (by k_mem)); (case k2 => decide); (case k3 => decide); (case k4 => rfl); (case k6 => with_unfolding_all rfl); k_whole))) | (k_end; kc_close) | walk1 | (dsimp only; walk1) | (leave1; walk_say "STEP leave1"; (try dsimp only)) | fail "no step"))
    have l9 := ‹∀ p ∈ (_ :: (_ ++ _) : List (Addr × Obj)), p.1 < _›
    rename News _ _ _ _ => N9; rename Fr _ _ _ _ => F9
    obtain ⟨oI, hoI⟩ := hoI
    obtain ⟨b9, rfl, _⟩ := nm_lt (l9 _ List.mem_cons_self)
    refine ⟨_, _, _, _, rfl, F9, news_ownB N9, ?_, by ((intro y hy; have hc := hy; (simp only [List.contains_cons, List.contains_nil, Bool.or_false, Bool.or_eq_false_iff, beq_eq_false_iff_ne, ne_eq] at hc); (simp [upd, hy, hc]))), ws ++ [.ref b9], _, _, rfl, ?_, fun p hp => List.mem_cons_of_mem _ (hr1 p hp), ?_⟩
    · refine List.forall_mem_cons.mpr ⟨hsI, List.forall_mem_cons.mpr ⟨Nat.ne_of_gt (l9 (I, oI) (List.mem_cons_of_mem _ (List.mem_append_right _ hoI))), fun p hp => hI p (List.mem_cons_of_mem _ hp)⟩⟩
    · rw [List.take_add_one, List.getElem?_eq_getElem hi]
      exact hS.snoc
    · exact List.forall_mem_cons.mpr ⟨Nat.ne_of_gt (l9 _ List.mem_cons_self), hr2⟩
  · rintro u nw h tk ⟨ws, rest, kk, rfl, hS, hr1, hr2⟩ F2 N2
    (repeat' (first | (k_unfold; (try dsimp only)) | (((with_reducible show wpAny _ _ (call (Value.ref 282) _) _ _ _); k_dflt (refine' put_u ?k1 ?k2 ?k3 ?k5 ?kK ?kd ?ku _ _ _ _ _ _ _ _ _ _ _ _ ?km ?kn ?k4 ?kU ?kp ?kq ?kr ?kw ?ka ?_; (case k1 => k_asm); (case k2 => k_asm); (case k3 => k_asm); (case k5 => k_asm); (case kK => first | exact rfl | assumption); (case kd => ktr_room); (case ku => ktr_units); (case k4 => k_asm); (case km => k_mem); (case kn => k_mem); (case kU => k_updF); (case kp => assumption); (case kq => assumption); (case kr => assumption); (case kw => assumption); (case ka => k_mem); k_whole); (intro r9 t9 u9 h9 tk9 l9 F9 N9); (try dsimp only); (try k_fold))) | ((with_reducible show wpAny _ _ (exec (Stmt.For (Expr.Name _ _) (Expr.Subscript _ _ _) _ _ _) _) _ _ _); (k_here; (rename Fr _ _ _ _ => lF'); (with_unfolding_all refine' For_turns lF' ?_; k_whole))) | ((with_reducible show wpAny _ _ (call (Value.builtin "len") _) _ _ _); (k_here; (with_reducible show wpAny _ _ (call (Value.builtin "len") [Value.ref _]) _ _ _); k_dflt (refine' kst_len ?k1 ?k2 ?k3 ?k4 ?_; (case k1 => k_asm); (case k2 => k_mem); (case k3 => first | assumption | exact rfl); (case k4 => ((try simp only [List.length_append, List.length_cons, List.length_nil]); omega)); k_whole))) | ((with_reducible show wpAny _ _ (subscriptTail (Expr.Name _ _) (Expr.Constant _ _ _) _ _) _ _ _); (k_here; (with_reducible show wpAny _ _ (subscriptTail _ _ (Value.ref _) (Value.int _ _)) _ _ _); (with_unfolding_all refine' item_litK ?k1 ?k2 ?k3 ?k4 ?_ ?k6; (case k1 => exact News.isList (by k_asm) (by k_mem)); (case k2 => decide); (case k3 => decide); (case k4 => rfl); (case k6 => with_unfolding_all rfl); k_whole))) | (k_end; kc_close) | walk1 | (dsimp only; walk1) | (leave1; walk_say "STEP leave1"; (try dsimp only)) | fail "no step"))
    rw [hC.1, List.take_length] at hS
    exact hret ws rest kk _ _ hS hr1 hr2 (by assumption) (by assumption)
end
end
section
section
variable {w : World} {dp un : Nat} {gd : Option (List Code)} {cn : Str} {cs : Scope} {a : Addr} {ccd : Value} {cl : List (Str × Addr)} {outer : List Env} {A₀ : Around} {base h₀ : Heap} {L : Addr} {m : Str → Option Value} {news : List (Addr × Obj)} {s : Shared} {p : Program} {loose : List Str} {mean : ExcName → Option Value} {mg mb : Str → Option Value} {Q E : Value → Shared → Prop}

theorem obj_ne {h : Heap} {nw : List (Addr × Obj)} {b c : Addr} {o o' : Obj} (N : News h₀ L h nw) (h1 : (b, o) ∈ nw) (h2 : (c, o') ∈ nw) (hc : o.cls ≠ o'.cls) : b ≠ c := by
  rintro rfl
  have e := (N _ h1).1.symm.trans (N _ h2).1
  exact hc (congrArg Obj.cls (Option.some.inj e))

theorem put_seq_u (B : Below A₀ base outer h₀) (F : Fr h₀ L s.heap m) (X : (hd.heap_1_39 w.params).In h₀) (T : Top p loose mean mg mb h₀) (hk : cs.kind = .function) (hdd : dp + 8 < recursionLimit) (hu : un + 80 < cLine) {nw : List (Addr × Obj)} {g : Obj → List (Addr × Obj)}  (x d sl : Addr) (e1 e2 u1 : Tok) (ws : List Value) (kk : Nat) (TR SQ : Addr) (z : Tok) (vs : List Value) (l : List Nat) (hx : (x, instObj 313 d) ∈ nw) (hd : (d, dictOf [⟨PyData.keyHash w.params (Str.ofString "steps"), .str (Str.ofString "steps") e1, .ref sl⟩, ⟨PyData.keyHash w.params (Str.ofString "loops"), .str (Str.ofString "loops") e2, .int 0 u1⟩] 2) ∈ nw) (N : News h₀ L s.heap nw) (U : UpdF sl (listOf ws.toArray kk) nw g) (hxs : x ≠ sl) (hds : d ≠ sl) (hTR : (TR, ({ cls := .type "tuple", data := .seq #[.str (Str.ofString "seq") z, .ref SQ] } : Obj)) ∈ nw) (hSQ : (SQ, ({ cls := .type "tuple", data := .seq vs.toArray } : Obj)) ∈ nw) (hC : CharTs nw vs l) (hl : l.length ≤ 7) (hw0 : ws = [])
  (hret : ∀ ws' rest kk' h' tk', RefTs stT rest ws' l → ws'.length ≤ 10 → (∀ p ∈ nw, p.1 ≠ sl → p ∈ rest) → (x, instObj 313 d) ∈ rest → (d, dictOf [⟨PyData.keyHash w.params (Str.ofString "steps"), .str (Str.ofString "steps") e1, .ref sl⟩, ⟨PyData.keyHash w.params (Str.ofString "loops"), .str (Str.ofString "loops") e2, .int 0 u1⟩] 2) ∈ rest → (∀ p ∈ rest, p.1 ≠ sl) → Fr h₀ L h' m → News h₀ L h' ((sl, listOf ws'.toArray kk') :: rest) → Q .none {s with heap := h', toks := tk'}) :
  wpAny (model prog w) (ktrTop dp un gd cn cs L a ccd cl outer) (call (.ref 282) [.ref x, .ref TR]) Q E s := by
  obtain ⟨pre, post, rfl, hg, h1, h2⟩ := U.split
  have hsl : (sl, listOf ws.toArray kk) ∈ pre ++ (sl, listOf ws.toArray kk) :: post := List.mem_append_right _ List.mem_cons_self
  have hws : ws.length ≤ 10 := by rw [hw0]; exact Nat.zero_le _
  have hx9 := upd_split_mem hx hxs
  have hd9 := upd_split_mem hd hds
  have hne : ∀ p ∈ pre ++ post, p.1 ≠ sl := fun p hp => (List.mem_append.mp hp).elim (h1 p) (h2 p)
  have tn : ∀ (b : Addr) (o : Obj), (b, o) ∈ pre ++ (sl, listOf ws.toArray kk) :: post → o.cls = .type "tuple" → b ≠ sl := fun b o hb e => obj_ne N hb hsl (by rw [e]; show ¬ (Value.type "tuple" = Value.type "list"); intro e; injection e with e; exact absurd e (by decide))
  refine put_seq (news := pre ++ post) B F X T hk hdd hu x d sl e1 e2 u1 ws kk hx9 hd9 (news_head N) hne hws TR SQ z vs l (upd_split_mem hTR (tn _ _ hTR rfl)) (upd_split_mem hSQ (tn _ _ hSQ rfl)) ⟨hC.1, fun i c e => ?_⟩ hl hw0 ?_
  · obtain ⟨b, t, u, e1, e2⟩ := hC.2 i c e
    exact ⟨b, t, u, e1, upd_split_mem e2 (tn _ _ e2 rfl)⟩
  · intro ws' rest kk' h' tk' hR hs hn F' N'
    refine hret ws' rest kk' h' tk' hR ?_ (fun p hp hne => hs p (upd_split_mem hp hne)) (hs _ hx9) (hs _ hd9) hn F' N'
    have := hR.1
    omega

theorem pattern_code_ok (B : Below A₀ base outer h₀) (F : Fr h₀ L s.heap m) (X : (hd.heap_1_39 w.params).In h₀) (N : News h₀ L s.heap news) (T : Top p loose mean mg mb h₀) (hk : cs.kind = .function) (hdd : dp + 12 < recursionLimit) (hu : un + 120 < cLine) (TR SQ : Addr) (z : Tok) (vs : List Value) (l : List Nat) (hTR : (TR, ({ cls := .type "tuple", data := .seq #[.str (Str.ofString "seq") z, .ref SQ] } : Obj)) ∈ news) (hSQ : (SQ, ({ cls := .type "tuple", data := .seq vs.toArray } : Obj)) ∈ news) (hC : CharTs news vs l) (hl : l.length ≤ 7)
  (hret : ∀ (R sl mt : Addr) (ws : List Value) rest kk (z1 z2 : Tok) h' tk', RefTs stT rest ws l → (∀ p ∈ news, p ∈ rest) → Fr h₀ L h' m → News h₀ L h' ((R, ({ cls := .type "tuple", data := .seq #[.ref sl, .int 0 z1] } : Obj)) :: (mt, ({ cls := .type "tuple", data := .seq #[.int 15 z2] } : Obj)) :: (sl, listOf (ws ++ [Value.ref mt]).toArray kk) :: rest) → Q (.ref R) {s with heap := h', toks := tk'}) :
  wpAny (model prog w) (ktrTop dp un gd cn cs L a ccd cl outer) (call (.ref 324) [.ref TR]) Q E s := by
  refine wpAny_call ?_
  cell_enter
  (repeat' (first | (k_unfold; (try dsimp only)) | (((with_reducible show wpAny _ _ (call (Value.ref 282) _) _ _ _); k_dflt (refine' put_seq_u ?k1 ?k2 ?k3 ?k5 ?kK ?kd ?ku _ _ _ _ _ _ _ _ _ _ _ _ _ ?km ?kn ?k4 ?kU ?kp ?kq ?kr ?ks ?kC ?kl ?kw ?_; (case k1 => k_asm); (case k2 => k_asm); (case k3 => k_asm); (case k5 => k_asm); (case kK => first | exact rfl | assumption); (case kd => ktr_room); (case ku => ktr_units); (case k4 => k_asm); (case km => k_mem); (case kn => k_mem); (case kU => k_updF); (case kp => (refine neN ?_; omega)); (case kq => (refine neN ?_; omega)); (case kr => k_mem); (case ks => k_mem); (case kC => exact CharTs.mono (by assumption) (fun p hp => by k_mem)); (case kl => assumption); (case kw => rfl); k_whole); (intro ws9 rest9 kk9 h9 tk9 hR9 hl9 hs9 hx9 hd9 hn9 F9 N9); (try dsimp only); (try k_fold))) | (((with_reducible show wpAny _ _ (call (Value.ref 275) _) _ _ _); k_dflt (refine' emit_u ?k1 ?k2 ?k3 ?k5 ?kK ?kd ?ku _ _ _ _ _ _ _ _ _ ?km ?kn ?k4 ?kU ?kp ?kq ?kw ?_; (case k1 => k_asm); (case k2 => k_asm); (case k3 => k_asm); (case k5 => k_asm); (case kK => first | exact rfl | assumption); (case kd => ktr_room); (case ku => ktr_units); (case k4 => k_asm); (case km => k_mem); (case kn => k_mem); (case kU => k_updF); (case kp => first | assumption | (refine neN ?_; omega)); (case kq => first | assumption | (refine neN ?_; omega)); (case kw => assumption); k_whole); (intro i9 t9 h9 tk9 F9 N9); (try dsimp only); (try k_fold))) | ((with_reducible show wpAny _ _ (call (Value.builtin "len") _) _ _ _); (k_here; (with_reducible show wpAny _ _ (call (Value.builtin "len") [Value.ref _]) _ _ _); k_dflt (refine' kst_len ?k1 ?k2 ?k3 ?k4 ?_; (case k1 => k_asm); (case k2 => k_mem); (case k3 => first | assumption | exact rfl); (case k4 => ((try simp only [List.length_append, List.length_cons, List.length_nil]); omega)); k_whole))) | ((with_reducible show wpAny _ _ (subscriptTail (Expr.Name _ _) (Expr.Constant _ _ _) _ _) _ _ _); (k_here; (with_reducible show wpAny _ _ (subscriptTail _ _ (Value.ref _) (Value.int _ _)) _ _ _); (with_unfolding_all refine' item_litK ?k1 ?k2 ?k3 ?k4 ?_ ?k6; (case k1 => exact News.isList (by k_asm) (by k_mem)); (case k2 => decide); (case k3 => decide); (case k4 => rfl); (case k6 => with_unfolding_all rfl); k_whole))) | (k_end; kc_close) | walk1 | (dsimp only; walk1) | (leave1; walk_say "STEP leave1"; (try dsimp only)) | fail "no step"))
  have hs := ‹∀ p ∈ (_ : List (Addr × Obj)), p.1 ≠ _ → p ∈ _›
  have lt := ‹_ ∧ _ ∧ AllLt _ news›
  exact hret _ _ _ _ _ _ _ _ _ _ (by assumption) (fun p hp => hs p (by k_mem) (Nat.ne_of_lt (ktn_ltOf lt.2.2 p hp))) (by assumption) (by assumption)
end
end
section
section
variable {w : World} {dp un : Nat} {gd : Option (List Code)} {cn : Str} {cs : Scope} {a : Addr} {ccd : Value} {cl : List (Str × Addr)} {outer : List Env} {A₀ : Around} {base h₀ : Heap} {L : Addr} {m : Str → Option Value} {news : List (Addr × Obj)} {s : Shared} {p : Program} {loose : List Str} {mean : ExcName → Option Value} {mg mb : Str → Option Value} {Q E : Value → Shared → Prop}

def patD (w : World) (l : List Nat) (fl : Str) (C : Addr) (k1 k2 k3 k4 t1 t2 t3 : Tok) : Obj := dictOf [⟨PyData.keyHash w.params (Str.ofString "source"), .str (Str.ofString "source") k1, .str (S l) t1⟩, ⟨PyData.keyHash w.params (Str.ofString "flags"), .str (Str.ofString "flags") k2, .str fl t2⟩, ⟨PyData.keyHash w.params (Str.ofString "code"), .str (Str.ofString "code") k3, .ref C⟩, ⟨PyData.keyHash w.params (Str.ofString "groups"), .str (Str.ofString "groups") k4, .int 0 t3⟩] 4
def PatIn (w : World) (nw : List (Addr × Obj)) (P : Addr) (l : List Nat) (fl : Str) : Prop := ∃ (d C sl mt : Addr) (ws : List Value) (kk : Nat) (k1 k2 k3 k4 t1 t2 t3 z1 z2 : Tok),
  (P, instObj 629 d) ∈ nw ∧ (d, patD w l fl C k1 k2 k3 k4 t1 t2 t3) ∈ nw ∧ (C, ({ cls := .type "tuple", data := .seq #[.ref sl, .int 0 z1] } : Obj)) ∈ nw ∧ (sl, listOf (ws ++ [Value.ref mt]).toArray kk) ∈ nw ∧ (mt, ({ cls := .type "tuple", data := .seq #[.int 15 z2] } : Obj)) ∈ nw ∧ RefTs stT nw ws l
theorem PatIn.mono {nw nw' : List (Addr × Obj)} {P : Addr} {l : List Nat} {fl : Str} (h : PatIn w nw P l fl) (k : ∀ p ∈ nw, p ∈ nw') : PatIn w nw' P l fl := by
  obtain ⟨d, C, sl, mt, ws, kk, k1, k2, k3, k4, t1, t2, t3, z1, z2, a, b, c, e, f, g⟩ := h
  exact ⟨d, C, sl, mt, ws, kk, k1, k2, k3, k4, t1, t2, t3, z1, z2, k _ a, k _ b, k _ c, k _ e, k _ f, g.mono k⟩

theorem read_ok (B : Below A₀ base outer h₀) (F : Fr h₀ L s.heap m) (X : (hd.heap_1_39 w.params).In h₀) (N : News h₀ L s.heap news) (T : Top p loose mean mg mb h₀) (hk : cs.kind = .function) (hdd : dp + 20 < recursionLimit) (hu : un + 200 < cLine) (l : List Nat) (hl : l.length ≤ 7) (hL : ∀ c ∈ l, Let c) (y : Str) (t t2 : Tok) (hy : y = Str.ofString "g" ∨ y = Str.ofString "gm" ∨ y = Str.ofString "gi")
  (hret : ∀ (P : Addr) rest h' tk', PatIn w rest P l y → (∀ p ∈ news, p ∈ rest) → Fr h₀ L h' m → News h₀ L h' rest → Q (.ref P) {s with heap := h', toks := tk'}) :
  wpAny (model prog w) (ktrTop dp un gd cn cs L a ccd cl outer) (call (.ref 647) [.str (S l) t, .str y t2]) Q E s := by
  refine wpAny_call ?_
  cell_enter
  (repeat' (first | (k_unfold; (try dsimp only)) | (((with_reducible show wpAny _ _ (call (Value.ref 324) _) _ _ _); k_dflt (refine' pattern_code_ok ?k1 ?k2 ?k3 ?k4 ?k5 ?kK ?kd ?ku _ _ _ _ _ ?ka ?kb ?kC ?kl ?_; (case k1 => k_asm); (case k2 => k_asm); (case k3 => k_asm); (case k4 => k_asm); (case k5 => k_asm); (case kK => first | exact rfl | assumption); (case kd => ktr_room); (case ku => ktr_units); (case ka => k_mem); (case kb => k_mem); (case kC => exact CharTs.mono (by assumption) (fun p hp => by k_mem)); (case kl => assumption); k_whole); (intro R9 sl9 mt9 ws9 rest9 kk9 z9 z9 h9 tk9 hR9 hs9 F9 N9); (try dsimp only); (try k_fold))) | (((with_reducible show wpAny _ _ (call (Value.ref 605) _) _ _ _); k_dflt (refine' parse_ok ?k1 ?k2 ?k3 ?k4 ?k5 ?kK ?kd ?ku _ ?kl ?kL _ _ _ ?kx ?_; (case k1 => k_asm); (case k2 => k_asm); (case k3 => k_asm); (case k4 => k_asm); (case k5 => k_asm); (case kK => first | exact rfl | assumption); (case kd => ktr_room); (case ku => ktr_units); (case kl => assumption); (case kL => assumption); (case kx => assumption); k_whole); (intro R9 TR9 SQ9 z9 z9 vs9 rest9 h9 tk9 hC9 hs9 F9 N9); (try dsimp only); (try k_fold))) | (((with_reducible show wpAny _ _ (call (Value.ref 640) _) _ _ _); k_dflt (refine' check_flags_ok ?k1 ?k2 ?k3 ?k4 ?k5 ?kK ?kd ?ku _ _ ?kx ?_; (case k1 => k_asm); (case k2 => k_asm); (case k3 => k_asm); (case k4 => k_asm); (case k5 => k_asm); (case kK => first | exact rfl | assumption); (case kd => ktr_room); (case ku => ktr_units); (case kx => assumption); k_whole); (intro h9 tk9 F9 N9); (try dsimp only); (try k_fold))) | ((with_reducible show wpAny _ _ (call (Value.builtin "len") _) _ _ _); (k_here; (with_reducible show wpAny _ _ (call (Value.builtin "len") [Value.ref _]) _ _ _); k_dflt (refine' kst_len ?k1 ?k2 ?k3 ?k4 ?_; (case k1 => k_asm); (case k2 => k_mem); (case k3 => first | assumption | exact rfl); (case k4 => ((try simp only [List.length_append, List.length_cons, List.length_nil]); omega)); k_whole))) | ((with_reducible show wpAny _ _ (subscriptTail (Expr.Name _ _) (Expr.Constant _ _ _) _ _) _ _ _); (k_here; (with_reducible show wpAny _ _ (subscriptTail _ _ (Value.ref _) (Value.int _ _)) _ _ _); (with_unfolding_all refine' item_litK ?k1 ?k2 ?k3 ?k4 ?_ ?k6; (case k1 => exact News.isList (by k_asm) (by k_mem)); (case k2 => decide); (case k3 => decide); (case k4 => rfl); (case k6 => with_unfolding_all rfl); k_whole))) | (k_end; kc_close) | walk1 | (dsimp only; walk1) | (leave1; walk_say "STEP leave1"; (try dsimp only)) | fail "no step"))
  rename News _ _ _ _ => N9; rename Fr _ _ _ _ => F9
  have hs1 := ‹∀ p ∈ news, p ∈ _›
  have hs2 := ‹∀ p ∈ (_ :: _ : List (Addr × Obj)), p ∈ _›
  refine hret _ _ _ _ ?_ (fun p hp => ?_) F9 N9
  · exact ⟨_, _, _, _, _, _, _, _, _, _, _, _, _, _, _, List.mem_cons_self, (List.mem_cons_of_mem _ List.mem_cons_self), (List.mem_cons_of_mem _ (List.mem_cons_of_mem _ List.mem_cons_self)), (List.mem_cons_of_mem _ (List.mem_cons_of_mem _ (List.mem_cons_of_mem _ (List.mem_cons_of_mem _ List.mem_cons_self)))), (List.mem_cons_of_mem _ (List.mem_cons_of_mem _ (List.mem_cons_of_mem _ List.mem_cons_self))), RefTs.mono (by assumption) (fun p hp => by k_mem)⟩
  · have := hs2 p (List.mem_cons_of_mem _ (List.mem_cons_of_mem _ (List.mem_cons_of_mem _ (hs1 p hp))))
    k_mem
end
end
section
section
variable {w : World} {dp un : Nat} {gd : Option (List Code)} {cn : Str} {cs : Scope} {a : Addr} {ccd : Value} {cl : List (Str × Addr)} {outer : List Env} {A₀ : Around} {base h₀ : Heap} {L : Addr} {m : Str → Option Value} {news : List (Addr × Obj)} {s : Shared} {p : Program} {loose : List Str} {mean : ExcName → Option Value} {mg mb : Str → Option Value} {Q E : Value → Shared → Prop}

/-- the folded sign -/
def up (c : Nat) : Nat := if c = 98 then 66 else c
def eqc (ic : Bool) (c d : Nat) : Bool := c == d || (ic && up c == up d)

theorem canon_low (B : Below A₀ base outer h₀) (F : Fr h₀ L s.heap m) (X : (hd.heap_1_39 w.params).In h₀) (N : News h₀ L s.heap news) (T : Top p loose mean mg mb h₀) (hk : cs.kind = .function) (hdd : dp + 6 < recursionLimit) (hu : un + 60 < cLine) (c : Int) (t : Tok) (h0 : 45 ≤ c) (hi : c ≤ 66)
  (hret : ∀ t h' tk', Fr h₀ L h' m → News h₀ L h' news → Q (.int c t) {s with heap := h', toks := tk'}) :
  wpAny (model prog w) (ktrTop dp un gd cn cs L a ccd cl outer) (call (.ref 207) [.int c t]) Q E s := by
  refine wpAny_call ?_
  cell_enter
  (repeat' (first | (k_unfold; (try dsimp only)) | (((with_reducible show wpAny _ _ (call (Value.ref 146) _) _ _ _); k_dflt (refine' great_98 ?k1 ?k2 ?k3 ?k4 ?k5 ?kK ?kd ?ku _ ?_; (case k1 => k_asm); (case k2 => k_asm); (case k3 => k_asm); (case k4 => k_asm); (case k5 => k_asm); (case kK => first | exact rfl | assumption); (case kd => ktr_room); (case ku => ktr_units); k_whole); (intro t9 h9 tk9 F9 N9); (try dsimp only); (try k_fold))) | (((with_reducible show wpAny _ _ (call (Value.ref 146) _) _ _ _); k_dflt (refine' great_low ?k1 ?k2 ?k3 ?k4 ?k5 ?kK ?kd ?ku _ _ ?kl ?kh ?_; (case k1 => k_asm); (case k2 => k_asm); (case k3 => k_asm); (case k4 => k_asm); (case k5 => k_asm); (case kK => first | exact rfl | assumption); (case kd => ktr_room); (case ku => ktr_units); (case kl => omega); (case kh => omega); k_whole); (intro t9 h9 tk9 F9 N9); (try dsimp only); (try k_fold))) | ((with_reducible show wpAny _ _ (call (Value.builtin "len") _) _ _ _); (k_here; (with_reducible show wpAny _ _ (call (Value.builtin "len") [Value.ref _]) _ _ _); k_dflt (refine' kst_len ?k1 ?k2 ?k3 ?k4 ?_; (case k1 => k_asm); (case k2 => k_mem); (case k3 => first | assumption | exact rfl); (case k4 => ((try simp only [List.length_append, List.length_cons, List.length_nil]); omega)); k_whole))) | ((with_reducible show wpAny _ _ (subscriptTail (Expr.Name _ _) (Expr.Constant _ _ _) _ _) _ _ _); (k_here; (with_reducible show wpAny _ _ (subscriptTail _ _ (Value.ref _) (Value.int _ _)) _ _ _); (with_unfolding_all refine' item_litK ?k1 ?k2 ?k3 ?k4 ?_ ?k6; (case k1 => exact News.isList (by k_asm) (by k_mem)); (case k2 => decide); (case k3 => decide); (case k4 => rfl); (case k6 => with_unfolding_all rfl); k_whole))) | (k_end; kc_close) | walk1 | (dsimp only; walk1) | (leave1; walk_say "STEP leave1"; (try dsimp only)) | fail "no step"))
  all_goals exact hret _ _ _ (by assumption) (by assumption)
theorem canon_98 (B : Below A₀ base outer h₀) (F : Fr h₀ L s.heap m) (X : (hd.heap_1_39 w.params).In h₀) (N : News h₀ L s.heap news) (T : Top p loose mean mg mb h₀) (hk : cs.kind = .function) (hdd : dp + 6 < recursionLimit) (hu : un + 60 < cLine) (t : Tok)
  (hret : ∀ t h' tk', Fr h₀ L h' m → News h₀ L h' news → Q (.int 66 t) {s with heap := h', toks := tk'}) :
  wpAny (model prog w) (ktrTop dp un gd cn cs L a ccd cl outer) (call (.ref 207) [.int 98 t]) Q E s := by
  refine wpAny_call ?_
  cell_enter
  (repeat' (first | (k_unfold; (try dsimp only)) | (((with_reducible show wpAny _ _ (call (Value.ref 146) _) _ _ _); k_dflt (refine' great_98 ?k1 ?k2 ?k3 ?k4 ?k5 ?kK ?kd ?ku _ ?_; (case k1 => k_asm); (case k2 => k_asm); (case k3 => k_asm); (case k4 => k_asm); (case k5 => k_asm); (case kK => first | exact rfl | assumption); (case kd => ktr_room); (case ku => ktr_units); k_whole); (intro t9 h9 tk9 F9 N9); (try dsimp only); (try k_fold))) | (((with_reducible show wpAny _ _ (call (Value.ref 146) _) _ _ _); k_dflt (refine' great_low ?k1 ?k2 ?k3 ?k4 ?k5 ?kK ?kd ?ku _ _ ?kl ?kh ?_; (case k1 => k_asm); (case k2 => k_asm); (case k3 => k_asm); (case k4 => k_asm); (case k5 => k_asm); (case kK => first | exact rfl | assumption); (case kd => ktr_room); (case ku => ktr_units); (case kl => omega); (case kh => omega); k_whole); (intro t9 h9 tk9 F9 N9); (try dsimp only); (try k_fold))) | ((with_reducible show wpAny _ _ (call (Value.builtin "len") _) _ _ _); (k_here; (with_reducible show wpAny _ _ (call (Value.builtin "len") [Value.ref _]) _ _ _); k_dflt (refine' kst_len ?k1 ?k2 ?k3 ?k4 ?_; (case k1 => k_asm); (case k2 => k_mem); (case k3 => first | assumption | exact rfl); (case k4 => ((try simp only [List.length_append, List.length_cons, List.length_nil]); omega)); k_whole))) | ((with_reducible show wpAny _ _ (subscriptTail (Expr.Name _ _) (Expr.Constant _ _ _) _ _) _ _ _); (k_here; (with_reducible show wpAny _ _ (subscriptTail _ _ (Value.ref _) (Value.int _ _)) _ _ _); (with_unfolding_all refine' item_litK ?k1 ?k2 ?k3 ?k4 ?_ ?k6; (case k1 => exact News.isList (by k_asm) (by k_mem)); (case k2 => decide); (case k3 => decide); (case k4 => rfl); (case k6 => with_unfolding_all rfl); k_whole))) | (k_end; kc_close) | walk1 | (dsimp only; walk1) | (leave1; walk_say "STEP leave1"; (try dsimp only)) | fail "no step"))
  all_goals exact hret _ _ _ (by assumption) (by assumption)
end
end
section
section
variable {w : World} {dp un : Nat} {gd : Option (List Code)} {cn : Str} {cs : Scope} {a : Addr} {ccd : Value} {cl : List (Str × Addr)} {outer : List Env} {A₀ : Around} {base h₀ : Heap} {L : Addr} {m : Str → Option Value} {news : List (Addr × Obj)} {s : Shared} {p : Program} {loose : List Str} {mean : ExcName → Option Value} {mg mb : Str → Option Value} {Q E : Value → Shared → Prop}

def Fold (c : Int) : Prop := 45 ≤ c ∧ c ≤ 66 ∨ c = 98
def upI (c : Int) : Int := if c = 98 then 66 else c
theorem upI_up (c : Nat) : upI c = up c := by
  unfold upI up
  by_cases h : c = 98
  · subst h; rfl
  · rw [if_neg h, if_neg (by omega)]
theorem canon_ok (B : Below A₀ base outer h₀) (F : Fr h₀ L s.heap m) (X : (hd.heap_1_39 w.params).In h₀) (N : News h₀ L s.heap news) (T : Top p loose mean mg mb h₀) (hk : cs.kind = .function) (hdd : dp + 6 < recursionLimit) (hu : un + 60 < cLine) (c : Int) (t : Tok) (hc : Fold c)
  (hret : ∀ t h' tk', Fr h₀ L h' m → News h₀ L h' news → Q (.int (upI c) t) {s with heap := h', toks := tk'}) :
  wpAny (model prog w) (ktrTop dp un gd cn cs L a ccd cl outer) (call (.ref 207) [.int c t]) Q E s := by
  rcases hc with ⟨h1, h2⟩ | rfl
  · have e : upI c = c := if_neg (by omega)
    rw [e] at hret
    exact canon_low B F X N T hk hdd hu c t h1 h2 hret
  · exact canon_98 B F X N T hk hdd hu t hret
theorem beqI (a b : Nat) : ((a : Int) == (b : Int)) = (a == b) := by
  rw [Bool.eq_iff_iff, beq_iff_eq, beq_iff_eq]; omega

theorem takes_ok (B : Below A₀ base outer h₀) (F : Fr h₀ L s.heap m) (X : (hd.heap_1_39 w.params).In h₀) (N : News h₀ L s.heap news) (T : Top p loose mean mg mb h₀) (hk : cs.kind = .function) (hdd : dp + 8 < recursionLimit) (hu : un + 80 < cLine) (x d sl wl : Addr) (q1 q2 q3 q4 q5 q6 tt tl : Tok) (T : Str) (ic ml : Bool) (n : Int) (hx : (x, instObj 404 d) ∈ news) (hd : (d, dictOf [⟨PyData.keyHash w.params (Str.ofString "steps"), .str (Str.ofString "steps") q1, .ref sl⟩, ⟨PyData.keyHash w.params (Str.ofString "text"), .str (Str.ofString "text") q2, .str T tt⟩, ⟨PyData.keyHash w.params (Str.ofString "ignores_case"), .str (Str.ofString "ignores_case") q3, .bool ic⟩, ⟨PyData.keyHash w.params (Str.ofString "is_multiline"), .str (Str.ofString "is_multiline") q4, .bool ml⟩, ⟨PyData.keyHash w.params (Str.ofString "left"), .str (Str.ofString "left") q5, .int (n) tl⟩, ⟨PyData.keyHash w.params (Str.ofString "waiting"), .str (Str.ofString "waiting") q6, .ref wl⟩] 6) ∈ news) (sa : Addr) (c e : Nat) (t u v : Tok) (hs : (sa, stT c t u) ∈ news) (hfc : ic = true → Fold c) (hfe : ic = true → Fold e)
  (hret : ∀ b h' tk', b = eqc ic c e → Fr h₀ L h' m → News h₀ L h' news → Q (.bool b) {s with heap := h', toks := tk'}) :
  wpAny (model prog w) (ktrTop dp un gd cn cs L a ccd cl outer) (call (.ref 373) [.ref x, .ref sa, .int (e : Nat) v]) Q E s := by
  unfold stT at hs
  cases ic with
  | false =>
    refine wpAny_call ?_
    cell_enter
    (repeat' (first | (k_unfold; (try dsimp only)) | (((with_reducible show wpAny _ _ (call (Value.ref 207) _) _ _ _); k_dflt (refine' canon_ok ?k1 ?k2 ?k3 ?k4 ?k5 ?kK ?kd ?ku _ _ ?kl ?_; (case k1 => k_asm); (case k2 => k_asm); (case k3 => k_asm); (case k4 => k_asm); (case k5 => k_asm); (case kK => first | exact rfl | assumption); (case kd => ktr_room); (case ku => ktr_units); (case kl => assumption); k_whole); (intro t9 h9 tk9 F9 N9); (try dsimp only); (try k_fold))) | ((with_reducible show wpAny _ _ (call (Value.builtin "len") _) _ _ _); (k_here; (with_reducible show wpAny _ _ (call (Value.builtin "len") [Value.ref _]) _ _ _); k_dflt (refine' kst_len ?k1 ?k2 ?k3 ?k4 ?_; (case k1 => k_asm); (case k2 => k_mem); (case k3 => first | assumption | exact rfl); (case k4 => ((try simp only [List.length_append, List.length_cons, List.length_nil]); omega)); k_whole))) | ((with_reducible show wpAny _ _ (subscriptTail (Expr.Name _ _) (Expr.Constant _ _ _) _ _) _ _ _); (k_here; (with_reducible show wpAny _ _ (subscriptTail _ _ (Value.ref _) (Value.int _ _)) _ _ _); (with_unfolding_all refine' item_litK ?k1 ?k2 ?k3 ?k4 ?_ ?k6; (case k1 => exact News.isList (by k_asm) (by k_mem)); (case k2 => decide); (case k3 => decide); (case k4 => rfl); (case k6 => with_unfolding_all rfl); k_whole))) | (k_end; kc_close) | walk1 | (dsimp only; walk1) | (leave1; walk_say "STEP leave1"; (try dsimp only)) | fail "no step"))
    · refine hret _ _ _ ?_ (by assumption) (by assumption)
      rw [beqI]; simp [eqc]
    · refine hret _ _ _ ?_ (by assumption) (by assumption)
      have a := ‹(c : Int) ≠ e›
      have a : c ≠ e := by omega
      simp [eqc, a]
  | true =>
    have hc := hfc rfl
    have he := hfe rfl
    clear hfc hfe
    refine wpAny_call ?_
    cell_enter
    (repeat' (first | (k_unfold; (try dsimp only)) | (((with_reducible show wpAny _ _ (call (Value.ref 207) _) _ _ _); k_dflt (refine' canon_ok ?k1 ?k2 ?k3 ?k4 ?k5 ?kK ?kd ?ku _ _ ?kl ?_; (case k1 => k_asm); (case k2 => k_asm); (case k3 => k_asm); (case k4 => k_asm); (case k5 => k_asm); (case kK => first | exact rfl | assumption); (case kd => ktr_room); (case ku => ktr_units); (case kl => assumption); k_whole); (intro t9 h9 tk9 F9 N9); (try dsimp only); (try k_fold))) | ((with_reducible show wpAny _ _ (call (Value.builtin "len") _) _ _ _); (k_here; (with_reducible show wpAny _ _ (call (Value.builtin "len") [Value.ref _]) _ _ _); k_dflt (refine' kst_len ?k1 ?k2 ?k3 ?k4 ?_; (case k1 => k_asm); (case k2 => k_mem); (case k3 => first | assumption | exact rfl); (case k4 => ((try simp only [List.length_append, List.length_cons, List.length_nil]); omega)); k_whole))) | ((with_reducible show wpAny _ _ (subscriptTail (Expr.Name _ _) (Expr.Constant _ _ _) _ _) _ _ _); (k_here; (with_reducible show wpAny _ _ (subscriptTail _ _ (Value.ref _) (Value.int _ _)) _ _ _); (with_unfolding_all refine' item_litK ?k1 ?k2 ?k3 ?k4 ?_ ?k6; (case k1 => exact News.isList (by k_asm) (by k_mem)); (case k2 => decide); (case k3 => decide); (case k4 => rfl); (case k6 => with_unfolding_all rfl); k_whole))) | (k_end; kc_close) | walk1 | (dsimp only; walk1) | (leave1; walk_say "STEP leave1"; (try dsimp only)) | fail "no step"))
    · refine hret _ _ _ ?_ (by assumption) (by assumption)
      have a := ‹(c : Int) = e›
      have a : c = e := by omega
      rw [beqI]; simp [eqc, a]
    · refine hret _ _ _ ?_ (by assumption) (by assumption)
      have a := ‹(c : Int) ≠ e›
      have a : c ≠ e := by omega
      rw [upI_up, upI_up, beqI]; simp [eqc, a]
end
end
section
section
variable {w : World} {dp un : Nat} {gd : Option (List Code)} {cn : Str} {cs : Scope} {a : Addr} {ccd : Value} {cl : List (Str × Addr)} {outer : List Env} {A₀ : Around} {base h₀ : Heap} {L : Addr} {m : Str → Option Value} {news : List (Addr × Obj)} {s : Shared} {p : Program} {loose : List Str} {mean : ExcName → Option Value} {mg mb : Str → Option Value} {Q E : Value → Shared → Prop}

theorem advance_ok (B : Below A₀ base outer h₀) (F : Fr h₀ L s.heap m) (X : (hd.heap_1_39 w.params).In h₀) (N : News h₀ L s.heap news) (T : Top p loose mean mg mb h₀) (hk : cs.kind = .function) (hdd : dp + 10 < recursionLimit) (hu : un + 100 < cLine) (x d sl wl : Addr) (q1 q2 q3 q4 q5 q6 tt tl : Tok) (T : Str) (ic ml : Bool) (n : Int) (hx : (x, instObj 404 d) ∈ news) (hd : (d, dictOf [⟨PyData.keyHash w.params (Str.ofString "steps"), .str (Str.ofString "steps") q1, .ref sl⟩, ⟨PyData.keyHash w.params (Str.ofString "text"), .str (Str.ofString "text") q2, .str T tt⟩, ⟨PyData.keyHash w.params (Str.ofString "ignores_case"), .str (Str.ofString "ignores_case") q3, .bool ic⟩, ⟨PyData.keyHash w.params (Str.ofString "is_multiline"), .str (Str.ofString "is_multiline") q4, .bool ml⟩, ⟨PyData.keyHash w.params (Str.ofString "left"), .str (Str.ofString "left") q5, .int (n) tl⟩, ⟨PyData.keyHash w.params (Str.ofString "waiting"), .str (Str.ofString "waiting") q6, .ref wl⟩] 6) ∈ news) (sa st gr lp : Addr) (c : Nat) (t u p1 p2 : Tok) (pc i : Int) (l : List Nat) (hT : T = S l) (hl : l.length ≤ 6) (h0 : 0 ≤ i) (hi : i ≤ 20) (hs : (sa, stT c t u) ∈ news) (hst : (st, ({ cls := .type "tuple", data := .seq #[.int pc p1, .int i p2, .ref gr, .ref lp] } : Obj)) ∈ news) (hfc : ic = true → Fold c) (hfe : ∀ e ∈ l, ic = true → Fold e)
  (hyes : ∀ e R p1 p2 h' tk', l[i.toNat]? = some e → eqc ic c e = true → (∀ p ∈ news, p.1 < R) → Fr h₀ L h' m → News h₀ L h' ((R, ({ cls := .type "tuple", data := .seq #[.int (pc + 1) p1, .int (i + 1) p2, .ref gr, .ref lp] } : Obj)) :: news) → Q (.ref R) {s with heap := h', toks := tk'})
  (hno : ∀ h' tk', (∀ e, l[i.toNat]? = some e → eqc ic c e = false) → Fr h₀ L h' m → News h₀ L h' news → Q .none {s with heap := h', toks := tk'}) :
  wpAny (model prog w) (ktrTop dp un gd cn cs L a ccd cl outer) (call (.ref 366) [.ref x, .ref sa, .ref st]) Q E s := by
  have hs' := hs
  unfold stT at hs
  have hTl : T.length ≤ 10 := by rw [hT, S_length]; omega
  rcases he : l[i.toNat]? with _ | e
  · have hge : ((T.length : Nat) : Int) ≤ i := by
      have := List.getElem?_eq_none_iff.mp he
      rw [hT, S_length]; omega
    refine wpAny_call ?_
    cell_enter
    (repeat' (first | (k_unfold; (try dsimp only)) | (((with_reducible show wpAny _ _ (call (Value.ref 373) _) _ _ _); k_dflt (refine' takes_ok ?k1 ?k2 ?k3 ?k4 ?k5 ?kK ?kd ?ku _ _ _ _ _ _ _ _ _ _ _ _ _ _ _ _ ?ka ?kb _ _ _ _ _ _ ?kc ?ke ?kf ?_; (case k1 => k_asm); (case k2 => k_asm); (case k3 => k_asm); (case k4 => k_asm); (case k5 => k_asm); (case kK => first | exact rfl | assumption); (case kd => ktr_room); (case ku => ktr_units); (case ka => k_mem); (case kb => k_mem); (case kc => k_mem); (case ke => assumption); (case kf => assumption); k_whole); (intro b9 h9 tk9 hb9 F9 N9); (try dsimp only); (try k_fold))) | ((with_reducible show wpAny _ _ (call (Value.builtin "len") _) _ _ _); (k_here; (with_reducible show wpAny _ _ (call (Value.builtin "len") [Value.ref _]) _ _ _); k_dflt (refine' kst_len ?k1 ?k2 ?k3 ?k4 ?_; (case k1 => k_asm); (case k2 => k_mem); (case k3 => first | assumption | exact rfl); (case k4 => ((try simp only [List.length_append, List.length_cons, List.length_nil]); omega)); k_whole))) | ((with_reducible show wpAny _ _ (subscriptTail (Expr.Name _ _) (Expr.Constant _ _ _) _ _) _ _ _); (k_here; (with_reducible show wpAny _ _ (subscriptTail _ _ (Value.ref _) (Value.int _ _)) _ _ _); (with_unfolding_all refine' item_litK ?k1 ?k2 ?k3 ?k4 ?_ ?k6; (case k1 => exact News.isList (by k_asm) (by k_mem)); (case k2 => decide); (case k3 => decide); (case k4 => rfl); (case k6 => with_unfolding_all rfl); k_whole))) | (k_end; kc_close) | walk1 | (dsimp only; walk1) | (leave1; walk_say "STEP leave1"; (try dsimp only)) | fail "no step"))
    refine hno _ _ (fun e h => by rw [he] at h; cases h) (by assumption) ?_
    ((refine cb_drop (by assumption) ?_; (repeat (refine List.forall_mem_cons.mpr ⟨by k_mem, ?_⟩)); (first | exact List.forall_mem_nil _ | (intro p hp; k_mem))))
  · obtain ⟨hlt, hle⟩ := List.getElem?_eq_some_iff.mp he
    have hlt' : i < ((T.length : Nat) : Int) := by rw [hT, S_length]; omega
    have hI : (Txt.item T i).cps.getD 0 0 = e := by
      rw [PySem.W.item_meets ⟨h0, hlt'⟩, hT]
      show (#[(S l).cps.getD i.toNat 0] : Array Nat).getD 0 0 = e
      simp [S, he]
    have hfe' : ic = true → Fold (((Txt.item T i).cps.getD 0 0 : Nat) : Int) := by
      rw [hI]; exact hfe e (List.mem_of_getElem? he)
    refine wpAny_call ?_
    cell_enter
    (repeat' (first | (k_unfold; (try dsimp only)) | (((with_reducible show wpAny _ _ (call (Value.ref 373) _) _ _ _); k_dflt (refine' takes_ok ?k1 ?k2 ?k3 ?k4 ?k5 ?kK ?kd ?ku _ _ _ _ _ _ _ _ _ _ _ _ _ _ _ _ ?ka ?kb _ _ _ _ _ _ ?kc ?ke ?kf ?_; (case k1 => k_asm); (case k2 => k_asm); (case k3 => k_asm); (case k4 => k_asm); (case k5 => k_asm); (case kK => first | exact rfl | assumption); (case kd => ktr_room); (case ku => ktr_units); (case ka => k_mem); (case kb => k_mem); (case kc => k_mem); (case ke => assumption); (case kf => assumption); k_whole); (intro b9 h9 tk9 hb9 F9 N9); (try dsimp only); (try k_fold))) | ((with_reducible show wpAny _ _ (call (Value.builtin "len") _) _ _ _); (k_here; (with_reducible show wpAny _ _ (call (Value.builtin "len") [Value.ref _]) _ _ _); k_dflt (refine' kst_len ?k1 ?k2 ?k3 ?k4 ?_; (case k1 => k_asm); (case k2 => k_mem); (case k3 => first | assumption | exact rfl); (case k4 => ((try simp only [List.length_append, List.length_cons, List.length_nil]); omega)); k_whole))) | ((with_reducible show wpAny _ _ (subscriptTail (Expr.Name _ _) (Expr.Constant _ _ _) _ _) _ _ _); (k_here; (with_reducible show wpAny _ _ (subscriptTail _ _ (Value.ref _) (Value.int _ _)) _ _ _); (with_unfolding_all refine' item_litK ?k1 ?k2 ?k3 ?k4 ?_ ?k6; (case k1 => exact News.isList (by k_asm) (by k_mem)); (case k2 => decide); (case k3 => decide); (case k4 => rfl); (case k6 => with_unfolding_all rfl); k_whole))) | (k_end; kc_close) | walk1 | (dsimp only; walk1) | (leave1; walk_say "STEP leave1"; (try dsimp only)) | fail "no step"))
    · have hb := ‹_ = eqc ic c _›
      rw [hI] at hb
      have l1 := ‹_ ∧ AllLt _ news›
      apply hyes e
      · exact he
      · rw [← hb]; assumption
      · exact ktn_ltOf l1.2
      · assumption
      · ((refine cb_drop (by assumption) ?_; (repeat (refine List.forall_mem_cons.mpr ⟨by k_mem, ?_⟩)); (first | exact List.forall_mem_nil _ | (intro p hp; k_mem))))
    · have hb := ‹_ = eqc ic c _›
      rw [hI] at hb
      refine hno _ _ (fun e' h => ?_) (by assumption) ?_
      · rw [he] at h
        obtain rfl := Option.some.inj h
        rw [← hb]; assumption
      · ((refine cb_drop (by assumption) ?_; (repeat (refine List.forall_mem_cons.mpr ⟨by k_mem, ?_⟩)); (first | exact List.forall_mem_nil _ | (intro p hp; k_mem))))
end
end
section
section
variable {w : World} {dp un : Nat} {gd : Option (List Code)} {cn : Str} {cs : Scope} {a : Addr} {ccd : Value} {cl : List (Str × Addr)} {outer : List Env} {A₀ : Around} {base h₀ : Heap} {L : Addr} {m : Str → Option Value} {news : List (Addr × Obj)} {s : Shared} {p : Program} {loose : List Str} {mean : ExcName → Option Value} {mg mb : Str → Option Value} {Q E : Value → Shared → Prop}

theorem newsA {h : Heap} {L : Addr} {a b : Addr × Obj} {r : List (Addr × Obj)} (N : News h₀ L h (a :: b :: r)) : News h₀ L h (b :: a :: r) := fun p hp => N p (by
  simp only [List.mem_cons] at hp ⊢
  rcases hp with h | h | h
  · exact .inr (.inl h)
  · exact .inl h
  · exact .inr (.inr h))
def MatchAt (ic : Bool) (W l : List Nat) (i : Nat) : Prop := ∀ j c, W[j]? = some c → ∃ e, l[i + j]? = some e ∧ eqc ic c e = true

theorem run_ok (B : Below A₀ base outer h₀) (F : Fr h₀ L s.heap m) (X : (hd.heap_1_39 w.params).In h₀) (T : Top p loose mean mg mb h₀) (hk : cs.kind = .function) (hdd : dp + 12 < recursionLimit) (hu : un + 120 < cLine) (x d sl wl : Addr) (q1 q2 q3 q4 q5 q6 tt tl : Tok) (T : Str) (ic ml : Bool) (n : Int) (hx : (x, instObj 404 d) ∈ news) (N : News h₀ L s.heap ((d, dictOf [⟨PyData.keyHash w.params (Str.ofString "steps"), .str (Str.ofString "steps") q1, .ref sl⟩, ⟨PyData.keyHash w.params (Str.ofString "text"), .str (Str.ofString "text") q2, .str T tt⟩, ⟨PyData.keyHash w.params (Str.ofString "ignores_case"), .str (Str.ofString "ignores_case") q3, .bool ic⟩, ⟨PyData.keyHash w.params (Str.ofString "is_multiline"), .str (Str.ofString "is_multiline") q4, .bool ml⟩, ⟨PyData.keyHash w.params (Str.ofString "left"), .str (Str.ofString "left") q5, .int (n) tl⟩, ⟨PyData.keyHash w.params (Str.ofString "waiting"), .str (Str.ofString "waiting") q6, .ref wl⟩] 6) :: news)) (hne : ∀ p ∈ news, p.1 ≠ d) (gr lp mt : Addr) (ws : List Value) (kk kw : Nat) (W l : List Nat) (i : Nat) (t1 t2 z : Tok) (hT : T = S l) (hl : l.length ≤ 6) (hi : i ≤ l.length) (hW : W.length ≤ 7) (hn : 100 ≤ n) (hsl : (sl, listOf (ws ++ [Value.ref mt]).toArray kk) ∈ news) (hmt : (mt, ({ cls := .type "tuple", data := .seq #[.int 15 z] } : Obj)) ∈ news) (hR : RefTs stT news ws W) (hwl : (wl, listOf (([] : List Value)).toArray kw) ∈ news) (hfc : ∀ c ∈ W, ic = true → Fold c) (hfe : ∀ e ∈ l, ic = true → Fold e)
  (hyes : ∀ R p rest h' tk', MatchAt ic W l i → (∀ p ∈ news, p ∈ rest) → Fr h₀ L h' m → News h₀ L h' ((R, ({ cls := .type "tuple", data := .seq #[.int ((i : Int) + (W.length : Nat)) p, .ref gr] } : Obj)) :: rest) → Q (.ref R) {s with heap := h', toks := tk'})
  (hno : ∀ rest h' tk', ¬ MatchAt ic W l i → (∀ p ∈ news, p ∈ rest) → Fr h₀ L h' m → News h₀ L h' rest → Q .none {s with heap := h', toks := tk'}) :
  wpAny (model prog w) (ktrTop dp un gd cn cs L a ccd cl outer) (call (.ref 352) [.ref x, .int 0 t1, .int (i : Nat) t2, .ref gr, .ref lp]) Q E s := by
  refine wpAny_call ?_
  cell_enter
  (repeat ((fail_if_success (with_reducible show wpAny _ _ (exec (Stmt.While _ _ _ _) _) _ _ _)); first | (k_unfold; (try dsimp only)) | (((with_reducible show wpAny _ _ (call (Value.ref 366) _) _ _ _); k_dflt (refine' advance_ok ?k1 ?k2 ?k3 ?k4 ?k5 ?kK ?kd ?ku _ _ _ _ _ _ _ _ _ _ _ _ _ _ _ _ ?ka ?kb _ _ _ _ _ _ _ _ _ _ _ _ ?kT ?kl ?kp ?kq ?ks ?kt ?kf ?kg ?_ ?_; (case k1 => k_asm); (case k2 => k_asm); (case k3 => k_asm); (case k4 => k_asm); (case k5 => k_asm); (case kK => first | exact rfl | assumption); (case kd => ktr_room); (case ku => ktr_units); (case ka => k_mem); (case kb => k_mem); (case kT => assumption); (case kl => assumption); (case ks => k_mem); (case kt => k_mem); (case kp => omega); (case kq => omega); (case kf => assumption); (case kg => assumption)); (intro e9 R9 p9 p9 h9 tk9 he9 hq9 l9 F9 N9); (replace l9 := allLt_of l9); (dsimp only [AllLt] at l9); (try dsimp only); (try k_fold); rotate_left; (intro h9 tk9 hq9 F9 N9); (try dsimp only); (try k_fold); rotate_left)) | ((with_reducible show wpAny _ _ (call (Value.builtin "len") _) _ _ _); (k_here; (with_reducible show wpAny _ _ (call (Value.builtin "len") [Value.ref _]) _ _ _); k_dflt (refine' kst_len ?k1 ?k2 ?k3 ?k4 ?_; (case k1 => k_asm); (case k2 => k_mem); (case k3 => first | assumption | exact rfl); (case k4 => ((try simp only [List.length_append, List.length_cons, List.length_nil]); omega)); k_whole))) | ((with_reducible show wpAny _ _ (subscriptTail (Expr.Name _ _) (Expr.Subscript _ _ _) _ _) _ _ _); (k_here; (with_reducible show wpAny _ _ (subscriptTail _ _ (Value.ref _) (Value.int _ _)) _ _ _); (with_unfolding_all refine' item_litK ?k1 ?k2 ?k3 ?k4 ?_ ?k6; (case k1 => exact News.isList (by k_asm) (by k_mem)); (case k2 => omega); (case k3 => omega); (case k4 => assumption); (case k6 => with_unfolding_all rfl); k_whole))) | ((with_reducible show wpAny _ _ (subscriptTail (Expr.Name _ _) (Expr.Constant _ _ _) _ _) _ _ _); (k_here; (with_reducible show wpAny _ _ (subscriptTail _ _ (Value.ref _) (Value.int _ _)) _ _ _); (with_unfolding_all refine' item_litK ?k1 ?k2 ?k3 ?k4 ?_ ?k6; (case k1 => exact News.isList (by k_asm) (by k_mem)); (case k2 => decide); (case k3 => decide); (case k4 => rfl); (case k6 => with_unfolding_all rfl); k_whole))) | walk1 | (dsimp only; walk1)))
  rename _ ∧ AllLt _ _ => l1
  rename Fr _ _ _ _ => F1; rename News _ _ _ _ => N1
  obtain ⟨s0, rfl, _⟩ := nm_lt l1.1
  refine while_inv (n₀ := W.length + 1) [Str.ofString "state", Str.ofString "step"] (fun nn u nw => ∃ (nl : Int) (tl' : Tok) (rest : List (Addr × Obj)), nw = (d, dictOf [⟨PyData.keyHash w.params (Str.ofString "steps"), .str (Str.ofString "steps") q1, .ref sl⟩, ⟨PyData.keyHash w.params (Str.ofString "text"), .str (Str.ofString "text") q2, .str T tt⟩, ⟨PyData.keyHash w.params (Str.ofString "ignores_case"), .str (Str.ofString "ignores_case") q3, .bool ic⟩, ⟨PyData.keyHash w.params (Str.ofString "is_multiline"), .str (Str.ofString "is_multiline") q4, .bool ml⟩, ⟨PyData.keyHash w.params (Str.ofString "left"), .str (Str.ofString "left") q5, .int (nl) tl'⟩, ⟨PyData.keyHash w.params (Str.ofString "waiting"), .str (Str.ofString "waiting") q6, .ref wl⟩] 6) :: rest ∧ (∀ p ∈ news, p ∈ rest) ∧ (∀ p ∈ rest, p.1 ≠ d) ∧ ((nn = 0 ∧ u (Str.ofString "state") = some .none ∧ ¬ MatchAt ic W l i) ∨ ∃ (st : Addr) (k : Nat) (kI iI : Int) (p1 p2 : Tok), nn + k = W.length + 1 ∧ k ≤ W.length ∧ kI = k ∧ iI = i + k ∧ nl = n - k ∧ u (Str.ofString "state") = some (.ref st) ∧ (st, ({ cls := .type "tuple", data := .seq #[.int kI p1, .int iI p2, .ref gr, .ref lp] } : Obj)) ∈ rest ∧ (∀ j c, j < k → W[j]? = some c → ∃ e, l[i + j]? = some e ∧ eqc ic c e = true))) F1 (newsA N1) ⟨n, tl, (s0, _) :: news, rfl, fun p hp => List.mem_cons_of_mem _ hp, List.forall_mem_cons.mpr ⟨Nat.ne_of_gt l1.1, hne⟩, .inr ⟨s0, 0, 0, i, t1, t2, by omega, by omega, by simp, by simp, by simp, rfl, List.mem_cons_self, fun j c hj => by omega⟩⟩ ?_
  rintro nn u nw h tk ⟨nl, tl', rest, rfl, hr1, hr2, hS⟩ F2 N2
  have hTl : T.length ≤ 10 := by rw [hT, S_length]; omega
  have hx' := hr1 _ hx
  have hsl' := hr1 _ hsl
  have hmt' := hr1 _ hmt
  have hwl' := hr1 _ hwl
  rcases hS with ⟨rfl, hu1, hM⟩ | ⟨st, k, kI, iI, p1, p2, hk1, hk2, hkI, hiI, hnl, hu1, hst, hpre⟩
  · have F3 := fr_put (x := Str.ofString "state") (v := .none) F2 (by simp [upd, hu1])
    clear F2
    (repeat' (first | (k_unfold; (try dsimp only)) | (((with_reducible show wpAny _ _ (call (Value.ref 366) _) _ _ _); k_dflt (refine' advance_ok ?k1 ?k2 ?k3 ?k4 ?k5 ?kK ?kd ?ku _ _ _ _ _ _ _ _ _ _ _ _ _ _ _ _ ?ka ?kb _ _ _ _ _ _ _ _ _ _ _ _ ?kT ?kl ?kp ?kq ?ks ?kt ?kf ?kg ?_ ?_; (case k1 => k_asm); (case k2 => k_asm); (case k3 => k_asm); (case k4 => k_asm); (case k5 => k_asm); (case kK => first | exact rfl | assumption); (case kd => ktr_room); (case ku => ktr_units); (case ka => k_mem); (case kb => k_mem); (case kT => assumption); (case kl => assumption); (case ks => k_mem); (case kt => k_mem); (case kp => omega); (case kq => omega); (case kf => assumption); (case kg => assumption)); (intro e9 R9 p9 p9 h9 tk9 he9 hq9 l9 F9 N9); (replace l9 := allLt_of l9); (dsimp only [AllLt] at l9); (try dsimp only); (try k_fold); rotate_left; (intro h9 tk9 hq9 F9 N9); (try dsimp only); (try k_fold); rotate_left)) | ((with_reducible show wpAny _ _ (call (Value.builtin "len") _) _ _ _); (k_here; (with_reducible show wpAny _ _ (call (Value.builtin "len") [Value.ref _]) _ _ _); k_dflt (refine' kst_len ?k1 ?k2 ?k3 ?k4 ?_; (case k1 => k_asm); (case k2 => k_mem); (case k3 => first | assumption | exact rfl); (case k4 => ((try simp only [List.length_append, List.length_cons, List.length_nil]); omega)); k_whole))) | ((with_reducible show wpAny _ _ (subscriptTail (Expr.Name _ _) (Expr.Subscript _ _ _) _ _) _ _ _); (k_here; (with_reducible show wpAny _ _ (subscriptTail _ _ (Value.ref _) (Value.int _ _)) _ _ _); (with_unfolding_all refine' item_litK ?k1 ?k2 ?k3 ?k4 ?_ ?k6; (case k1 => exact News.isList (by k_asm) (by k_mem)); (case k2 => omega); (case k3 => omega); (case k4 => assumption); (case k6 => with_unfolding_all rfl); k_whole))) | ((with_reducible show wpAny _ _ (subscriptTail (Expr.Name _ _) (Expr.Constant _ _ _) _ _) _ _ _); (k_here; (with_reducible show wpAny _ _ (subscriptTail _ _ (Value.ref _) (Value.int _ _)) _ _ _); (with_unfolding_all refine' item_litK ?k1 ?k2 ?k3 ?k4 ?_ ?k6; (case k1 => exact News.isList (by k_asm) (by k_mem)); (case k2 => decide); (case k3 => decide); (case k4 => rfl); (case k6 => with_unfolding_all rfl); k_whole))) | (k_end; kc_close) | walk1 | (dsimp only; walk1) | (leave1; walk_say "STEP leave1"; (try dsimp only)) | fail "no step"))
    exact hno _ _ _ hM (fun p hp => List.mem_cons_of_mem _ (hr1 p hp)) (by assumption) (by assumption)
  · have F3 := fr_put (x := Str.ofString "state") (v := .ref st) F2 (by simp [upd, hu1])
    clear F2
    by_cases hkW : k < W.length
    · obtain ⟨sa, ta, ua, hwk, hsa⟩ := hR.2 k W[k] (by simp [hkW])
      have hsa' := hr1 _ hsa
      have hwl2 : (ws ++ [Value.ref mt])[kI.toNat]? = some (.ref sa) := by
        rw [List.getElem?_append_left (by rw [hR.1]; omega), show kI.toNat = k by omega, hwk]
      have hfc' := hfc W[k] (by simp)
      have hWk : W[k]? = some W[k] := by simp [hkW]
      (repeat' (first | (k_unfold; (try dsimp only)) | (((with_reducible show wpAny _ _ (call (Value.ref 366) _) _ _ _); k_dflt (refine' advance_ok ?k1 ?k2 ?k3 ?k4 ?k5 ?kK ?kd ?ku _ _ _ _ _ _ _ _ _ _ _ _ _ _ _ _ ?ka ?kb _ _ _ _ _ _ _ _ _ _ _ _ ?kT ?kl ?kp ?kq ?ks ?kt ?kf ?kg ?_ ?_; (case k1 => k_asm); (case k2 => k_asm); (case k3 => k_asm); (case k4 => k_asm); (case k5 => k_asm); (case kK => first | exact rfl | assumption); (case kd => ktr_room); (case ku => ktr_units); (case ka => k_mem); (case kb => k_mem); (case kT => assumption); (case kl => assumption); (case ks => k_mem); (case kt => k_mem); (case kp => omega); (case kq => omega); (case kf => assumption); (case kg => assumption)); (intro e9 R9 p9 p9 h9 tk9 he9 hq9 l9 F9 N9); (replace l9 := allLt_of l9); (dsimp only [AllLt] at l9); (try dsimp only); (try k_fold); rotate_left; (intro h9 tk9 hq9 F9 N9); (try dsimp only); (try k_fold); rotate_left)) | ((with_reducible show wpAny _ _ (call (Value.builtin "len") _) _ _ _); (k_here; (with_reducible show wpAny _ _ (call (Value.builtin "len") [Value.ref _]) _ _ _); k_dflt (refine' kst_len ?k1 ?k2 ?k3 ?k4 ?_; (case k1 => k_asm); (case k2 => k_mem); (case k3 => first | assumption | exact rfl); (case k4 => ((try simp only [List.length_append, List.length_cons, List.length_nil]); omega)); k_whole))) | ((with_reducible show wpAny _ _ (subscriptTail (Expr.Name _ _) (Expr.Subscript _ _ _) _ _) _ _ _); (k_here; (with_reducible show wpAny _ _ (subscriptTail _ _ (Value.ref _) (Value.int _ _)) _ _ _); (with_unfolding_all refine' item_litK ?k1 ?k2 ?k3 ?k4 ?_ ?k6; (case k1 => exact News.isList (by k_asm) (by k_mem)); (case k2 => omega); (case k3 => omega); (case k4 => assumption); (case k6 => with_unfolding_all rfl); k_whole))) | ((with_reducible show wpAny _ _ (subscriptTail (Expr.Name _ _) (Expr.Constant _ _ _) _ _) _ _ _); (k_here; (with_reducible show wpAny _ _ (subscriptTail _ _ (Value.ref _) (Value.int _ _)) _ _ _); (with_unfolding_all refine' item_litK ?k1 ?k2 ?k3 ?k4 ?_ ?k6; (case k1 => exact News.isList (by k_asm) (by k_mem)); (case k2 => decide); (case k3 => decide); (case k4 => rfl); (case k6 => with_unfolding_all rfl); k_whole))) | (k_end; kc_close) | walk1 | (dsimp only; walk1) | (leave1; walk_say "STEP leave1"; (try dsimp only)) | fail "no step"))
      · have l9 := ‹d < _ ∧ AllLt _ rest›
        have he9 := ‹l[iI.toNat]? = some _›
        rename News _ _ _ _ => N9; rename Fr _ _ _ _ => F9
        obtain ⟨r9, rfl, _⟩ := nm_lt l9.1
        refine ⟨_, _, _, _, W.length - k, rfl, F9, newsA N9, by omega, by ((intro y hy; have hc := hy; (simp only [List.contains_cons, List.contains_nil, Bool.or_false, Bool.or_eq_false_iff, beq_eq_false_iff_ne, ne_eq] at hc); (simp [upd, hy, hc]))), _, _, _, rfl, fun p hp => List.mem_cons_of_mem _ (hr1 p hp), List.forall_mem_cons.mpr ⟨Nat.ne_of_gt l9.1, hr2⟩, .inr ⟨r9, k + 1, _, _, _, _, by omega, by omega, by omega, by omega, by omega, by simp, List.mem_cons_self, fun j c hj hc => ?_⟩⟩
        by_cases hjk : j < k
        · exact hpre j c hjk hc
        · obtain rfl : j = k := by omega
          rw [hWk] at hc
          obtain rfl := Option.some.inj hc
          exact ⟨_, by rw [show i + j = iI.toNat by omega]; exact he9, by assumption⟩
      · have hq9 := ‹∀ e, l[iI.toNat]? = some e → _ = false›
        rename News _ _ _ _ => N9; rename Fr _ _ _ _ => F9
        refine ⟨_, _, _, _, 0, rfl, F9, N9, by omega, by ((intro y hy; have hc := hy; (simp only [List.contains_cons, List.contains_nil, Bool.or_false, Bool.or_eq_false_iff, beq_eq_false_iff_ne, ne_eq] at hc); (simp [upd, hy, hc]))), _, _, _, rfl, hr1, hr2, .inl ⟨rfl, by simp, fun M => ?_⟩⟩
        obtain ⟨e, he, hq⟩ := M k _ hWk
        rw [hq9 e (by rw [show iI.toNat = i + k by omega]; exact he)] at hq
        cases hq
    · have hwl2 : (ws ++ [Value.ref mt])[kI.toNat]? = some (.ref mt) := by
        rw [List.getElem?_append_right (by rw [hR.1]; omega), show kI.toNat - ws.length = 0 by rw [hR.1]; omega]
        rfl
      (repeat' (first | (k_unfold; (try dsimp only)) | (((with_reducible show wpAny _ _ (call (Value.ref 366) _) _ _ _); k_dflt (refine' advance_ok ?k1 ?k2 ?k3 ?k4 ?k5 ?kK ?kd ?ku _ _ _ _ _ _ _ _ _ _ _ _ _ _ _ _ ?ka ?kb _ _ _ _ _ _ _ _ _ _ _ _ ?kT ?kl ?kp ?kq ?ks ?kt ?kf ?kg ?_ ?_; (case k1 => k_asm); (case k2 => k_asm); (case k3 => k_asm); (case k4 => k_asm); (case k5 => k_asm); (case kK => first | exact rfl | assumption); (case kd => ktr_room); (case ku => ktr_units); (case ka => k_mem); (case kb => k_mem); (case kT => assumption); (case kl => assumption); (case ks => k_mem); (case kt => k_mem); (case kp => omega); (case kq => omega); (case kf => assumption); (case kg => assumption)); (intro e9 R9 p9 p9 h9 tk9 he9 hq9 l9 F9 N9); (replace l9 := allLt_of l9); (dsimp only [AllLt] at l9); (try dsimp only); (try k_fold); rotate_left; (intro h9 tk9 hq9 F9 N9); (try dsimp only); (try k_fold); rotate_left)) | ((with_reducible show wpAny _ _ (call (Value.builtin "len") _) _ _ _); (k_here; (with_reducible show wpAny _ _ (call (Value.builtin "len") [Value.ref _]) _ _ _); k_dflt (refine' kst_len ?k1 ?k2 ?k3 ?k4 ?_; (case k1 => k_asm); (case k2 => k_mem); (case k3 => first | assumption | exact rfl); (case k4 => ((try simp only [List.length_append, List.length_cons, List.length_nil]); omega)); k_whole))) | ((with_reducible show wpAny _ _ (subscriptTail (Expr.Name _ _) (Expr.Subscript _ _ _) _ _) _ _ _); (k_here; (with_reducible show wpAny _ _ (subscriptTail _ _ (Value.ref _) (Value.int _ _)) _ _ _); (with_unfolding_all refine' item_litK ?k1 ?k2 ?k3 ?k4 ?_ ?k6; (case k1 => exact News.isList (by k_asm) (by k_mem)); (case k2 => omega); (case k3 => omega); (case k4 => assumption); (case k6 => with_unfolding_all rfl); k_whole))) | ((with_reducible show wpAny _ _ (subscriptTail (Expr.Name _ _) (Expr.Constant _ _ _) _ _) _ _ _); (k_here; (with_reducible show wpAny _ _ (subscriptTail _ _ (Value.ref _) (Value.int _ _)) _ _ _); (with_unfolding_all refine' item_litK ?k1 ?k2 ?k3 ?k4 ?_ ?k6; (case k1 => exact News.isList (by k_asm) (by k_mem)); (case k2 => decide); (case k3 => decide); (case k4 => rfl); (case k6 => with_unfolding_all rfl); k_whole))) | (k_end; kc_close) | walk1 | (dsimp only; walk1) | (leave1; walk_say "STEP leave1"; (try dsimp only)) | fail "no step"))
      obtain rfl : k = W.length := by omega
      subst hiI
      exact hyes _ _ _ _ _ (fun j c hc => hpre j c (List.getElem?_eq_some_iff.mp hc).1 hc) (fun p hp => List.mem_cons_of_mem _ (List.mem_cons_of_mem _ (hr1 p hp))) (by assumption) (by assumption)
end
end
section
section
variable {w : World} {dp un : Nat} {gd : Option (List Code)} {cn : Str} {cs : Scope} {a : Addr} {ccd : Value} {cl : List (Str × Addr)} {outer : List Env} {A₀ : Around} {base h₀ : Heap} {L : Addr} {m : Str → Option Value} {news : List (Addr × Obj)} {s : Shared} {p : Program} {loose : List Str} {mean : ExcName → Option Value} {mg mb : Str → Option Value} {Q E : Value → Shared → Prop}

theorem run_u (B : Below A₀ base outer h₀) (F : Fr h₀ L s.heap m) (X : (hd.heap_1_39 w.params).In h₀) (T : Top p loose mean mg mb h₀) (hk : cs.kind = .function) (hdd : dp + 12 < recursionLimit) (hu : un + 120 < cLine) {nw : List (Addr × Obj)} {g : Obj → List (Addr × Obj)}  (x d sl wl : Addr) (q1 q2 q3 q4 q5 q6 tt tl : Tok) (Tx : Str) (ic ml : Bool) (n : Int) (hx : (x, instObj 404 d) ∈ nw) (N : News h₀ L s.heap nw) (U : UpdF d (dictOf [⟨PyData.keyHash w.params (Str.ofString "steps"), .str (Str.ofString "steps") q1, .ref sl⟩, ⟨PyData.keyHash w.params (Str.ofString "text"), .str (Str.ofString "text") q2, .str Tx tt⟩, ⟨PyData.keyHash w.params (Str.ofString "ignores_case"), .str (Str.ofString "ignores_case") q3, .bool ic⟩, ⟨PyData.keyHash w.params (Str.ofString "is_multiline"), .str (Str.ofString "is_multiline") q4, .bool ml⟩, ⟨PyData.keyHash w.params (Str.ofString "left"), .str (Str.ofString "left") q5, .int (n) tl⟩, ⟨PyData.keyHash w.params (Str.ofString "waiting"), .str (Str.ofString "waiting") q6, .ref wl⟩] 6) nw g) (hxd : x ≠ d) (gr lp mt : Addr) (ws : List Value) (kk kw : Nat) (W l : List Nat) (i : Nat) (t1 t2 z : Tok) (hT : Tx = S l) (hl : l.length ≤ 6) (hi : i ≤ l.length) (hW : W.length ≤ 7) (hn : 100 ≤ n) (hsl : (sl, listOf (ws ++ [Value.ref mt]).toArray kk) ∈ nw) (hmt : (mt, ({ cls := .type "tuple", data := .seq #[.int 15 z] } : Obj)) ∈ nw) (hR : RefTs stT nw ws W) (hwl : (wl, listOf (([] : List Value)).toArray kw) ∈ nw) (hfc : ∀ c ∈ W, ic = true → Fold c) (hfe : ∀ e ∈ l, ic = true → Fold e) (hgr : (gr, ({ cls := .type "tuple", data := .seq #[] } : Obj)) ∈ nw)
  (hyes : ∀ R p rest h' tk', MatchAt ic W l i → (∀ p ∈ nw, p.1 ≠ d → p ∈ rest) → (gr, ({ cls := .type "tuple", data := .seq #[] } : Obj)) ∈ rest → Fr h₀ L h' m → News h₀ L h' ((R, ({ cls := .type "tuple", data := .seq #[.int ((i : Int) + (W.length : Nat)) p, .ref gr] } : Obj)) :: rest) → Q (.ref R) {s with heap := h', toks := tk'})
  (hno : ∀ rest h' tk', ¬ MatchAt ic W l i → (∀ p ∈ nw, p.1 ≠ d → p ∈ rest) → Fr h₀ L h' m → News h₀ L h' rest → Q .none {s with heap := h', toks := tk'}) :
  wpAny (model prog w) (ktrTop dp un gd cn cs L a ccd cl outer) (call (.ref 352) [.ref x, .int 0 t1, .int (i : Nat) t2, .ref gr, .ref lp]) Q E s := by
  obtain ⟨pre, post, rfl, hg, h1, h2⟩ := U.split
  have hd : (d, dictOf [⟨PyData.keyHash w.params (Str.ofString "steps"), .str (Str.ofString "steps") q1, .ref sl⟩, ⟨PyData.keyHash w.params (Str.ofString "text"), .str (Str.ofString "text") q2, .str Tx tt⟩, ⟨PyData.keyHash w.params (Str.ofString "ignores_case"), .str (Str.ofString "ignores_case") q3, .bool ic⟩, ⟨PyData.keyHash w.params (Str.ofString "is_multiline"), .str (Str.ofString "is_multiline") q4, .bool ml⟩, ⟨PyData.keyHash w.params (Str.ofString "left"), .str (Str.ofString "left") q5, .int (n) tl⟩, ⟨PyData.keyHash w.params (Str.ofString "waiting"), .str (Str.ofString "waiting") q6, .ref wl⟩] 6) ∈ pre ++ (d, dictOf [⟨PyData.keyHash w.params (Str.ofString "steps"), .str (Str.ofString "steps") q1, .ref sl⟩, ⟨PyData.keyHash w.params (Str.ofString "text"), .str (Str.ofString "text") q2, .str Tx tt⟩, ⟨PyData.keyHash w.params (Str.ofString "ignores_case"), .str (Str.ofString "ignores_case") q3, .bool ic⟩, ⟨PyData.keyHash w.params (Str.ofString "is_multiline"), .str (Str.ofString "is_multiline") q4, .bool ml⟩, ⟨PyData.keyHash w.params (Str.ofString "left"), .str (Str.ofString "left") q5, .int (n) tl⟩, ⟨PyData.keyHash w.params (Str.ofString "waiting"), .str (Str.ofString "waiting") q6, .ref wl⟩] 6) :: post := List.mem_append_right _ List.mem_cons_self
  have dt : ¬ (Value.type "tuple" = Value.type "dict") := by intro e; injection e with e; exact absurd e (by decide)
  have dl : ¬ (Value.type "list" = Value.type "dict") := by intro e; injection e with e; exact absurd e (by decide)
  refine run_ok (news := pre ++ post) B F X T hk hdd hu x d sl wl q1 q2 q3 q4 q5 q6 tt tl Tx ic ml n (upd_split_mem hx hxd) (news_head N) (fun p hp => (List.mem_append.mp hp).elim (h1 p) (h2 p)) gr lp mt ws kk kw W l i t1 t2 z hT hl hi hW hn (upd_split_mem hsl (obj_ne N hsl hd dl)) (upd_split_mem hmt (obj_ne N hmt hd dt)) ⟨hR.1, fun i c e => ?_⟩ (upd_split_mem hwl (obj_ne N hwl hd dl)) hfc hfe ?_ ?_
  · obtain ⟨b, t, u, e1, e2⟩ := hR.2 i c e
    exact ⟨b, t, u, e1, upd_split_mem e2 (obj_ne N e2 hd dt)⟩
  · intro R p rest h' tk' hM hs F' N'
    exact hyes R p rest h' tk' hM (fun p hp hne => hs p (upd_split_mem hp hne)) (hs _ (upd_split_mem hgr (obj_ne N hgr hd dt))) F' N'
  · intro rest h' tk' hM hs F' N'
    exact hno rest h' tk' hM (fun p hp hne => hs p (upd_split_mem hp hne)) F' N'

def LimIn (w : World) (nw : List (Addr × Obj)) (lm : Addr) : Prop := ∃ (d : Addr) (k1 k2 k3 k4 t1 t2 t3 t4 : Tok), (lm, instObj 250 d) ∈ nw ∧ (d, dictOf [⟨PyData.keyHash w.params (Str.ofString "depth"), .str (Str.ofString "depth") k1, .int 40 t1⟩, ⟨PyData.keyHash w.params (Str.ofString "frames"), .str (Str.ofString "frames") k2, .int 200 t2⟩, ⟨PyData.keyHash w.params (Str.ofString "steps"), .str (Str.ofString "steps") k3, .int 1000000000 t3⟩, ⟨PyData.keyHash w.params (Str.ofString "text"), .str (Str.ofString "text") k4, .int 1000000 t4⟩] 4) ∈ nw
theorem LimIn.mono {nw nw' : List (Addr × Obj)} {lm : Addr} (h : LimIn w nw lm) (k : ∀ p ∈ nw, p ∈ nw') : LimIn w nw' lm := by
  obtain ⟨d, k1, k2, k3, k4, t1, t2, t3, t4, a, b⟩ := h
  exact ⟨d, k1, k2, k3, k4, t1, t2, t3, t4, k _ a, k _ b⟩

theorem match_code_ok (B : Below A₀ base outer h₀) (F : Fr h₀ L s.heap m) (X : (hd.heap_1_39 w.params).In h₀) (N : News h₀ L s.heap news) (T : Top p loose mean mg mb h₀) (hk : cs.kind = .function) (hdd : dp + 16 < recursionLimit) (hu : un + 160 < cLine) (C sl mt lm : Addr) (z1 z : Tok) (ws : List Value) (kk : Nat) (W l : List Nat) (i : Nat) (tt ti tz : Tok) (ic ml : Bool) (hl : l.length ≤ 6) (hi : i ≤ l.length) (hW : W.length ≤ 7) (hC : (C, ({ cls := .type "tuple", data := .seq #[.ref sl, .int 0 z1] } : Obj)) ∈ news) (hsl : (sl, listOf (ws ++ [Value.ref mt]).toArray kk) ∈ news) (hmt : (mt, ({ cls := .type "tuple", data := .seq #[.int 15 z] } : Obj)) ∈ news) (hR : RefTs stT news ws W) (hlm : LimIn w news lm) (hfc : ∀ c ∈ W, ic = true → Fold c) (hfe : ∀ e ∈ l, ic = true → Fold e)
  (hyes : ∀ R g p kk rest h' tk', (∀ q ∈ news, q.1 < g) → MatchAt ic W l i → (∀ p ∈ news, p ∈ rest) → Fr h₀ L h' m → News h₀ L h' ((R, ({ cls := .type "tuple", data := .seq #[.int ((i : Int) + (W.length : Nat)) p, .ref g] } : Obj)) :: (g, listOf ([] : List Value).toArray kk) :: rest) → Q (.ref R) {s with heap := h', toks := tk'})
  (hno : ∀ rest h' tk', ¬ MatchAt ic W l i → (∀ p ∈ news, p ∈ rest) → Fr h₀ L h' m → News h₀ L h' rest → Q .none {s with heap := h', toks := tk'}) :
  wpAny (model prog w) (ktrTop dp un gd cn cs L a ccd cl outer) (call (.ref 415) [.ref C, .str (S l) tt, .int (i : Nat) ti, .int 0 tz, .bool ic, .bool ml, .ref lm]) Q E s := by
  obtain ⟨ld, k1, k2, k3, k4, t1, t2, t3, t4, hlm1, hlm2⟩ := hlm
  refine wpAny_call ?_
  cell_enter
  (repeat' (first | (k_unfold; (try dsimp only)) | (((with_reducible show wpAny _ _ (call (Value.ref 352) _) _ _ _); k_dflt (refine' run_u ?k1 ?k2 ?k3 ?k5 ?kK ?kd ?ku _ _ _ _ _ _ _ _ _ _ _ _ _ _ _ _ ?ka ?k4 ?kU ?kx _ _ _ _ _ _ _ _ _ _ _ _ ?kT ?kl ?kp ?kq ?kr ?ks ?kt ?kz ?kw ?kf ?kg ?kG ?_ ?_; (case k1 => k_asm); (case k2 => k_asm); (case k3 => k_asm); (case k4 => k_asm); (case k5 => k_asm); (case kK => first | exact rfl | assumption); (case kd => ktr_room); (case ku => ktr_units); (case ka => k_mem); (case kU => k_updF); (case kx => (refine neN ?_; omega)); (case ks => k_mem); (case kt => k_mem); (case kz => exact RefTs.mono (by assumption) (fun p hp => by k_mem)); (case kw => k_mem); (case kT => rfl); (case kl => assumption); (case kp => assumption); (case kq => assumption); (case kr => omega); (case kf => assumption); (case kg => assumption); (case kG => k_mem)); (intro R9 p9 rest9 h9 tk9 hM9 hs9 hg9 F9 N9); (try dsimp only); (try k_fold); rotate_left; (intro rest9 h9 tk9 hM9 hs9 F9 N9); (try dsimp only); (try k_fold); rotate_left)) | ((k_here; (with_reducible show wpAny _ _ (binaryOp Operator.Mult (Value.ref _) (Value.int 0 _)) _ _ _); k_dflt (refine' tup_mul0 ?k1 ?k2 ?k3 ?_; (case k1 => k_asm); (case k2 => k_asm); (case k3 => k_mem); k_whole); (intro D9 h9 l9 F9 N9); (dsimp only [AllLt] at l9))) | ((k_here; (with_reducible show wpAny _ _ (binaryOp Operator.Mult (Value.ref _) (Value.int (0 + 1) _)) _ _ _); k_dflt (refine' tup_mul1 ?k2 ?k3 ?k4 ?_; (case k2 => k_asm); (case k3 => k_mem); (case k4 => exact Int.zero_add 1); k_whole))) | ((with_reducible show wpAny _ _ (call (Value.builtin "len") _) _ _ _); (k_here; (with_reducible show wpAny _ _ (call (Value.builtin "len") [Value.ref _]) _ _ _); k_dflt (refine' kst_len ?k1 ?k2 ?k3 ?k4 ?_; (case k1 => k_asm); (case k2 => k_mem); (case k3 => first | assumption | exact rfl); (case k4 => ((try simp only [List.length_append, List.length_cons, List.length_nil]); omega)); k_whole))) | ((with_reducible show wpAny _ _ (subscriptTail (Expr.Name _ _) (Expr.Constant _ _ _) _ _) _ _ _); (k_here; (with_reducible show wpAny _ _ (subscriptTail _ _ (Value.ref _) (Value.int _ _)) _ _ _); (with_unfolding_all refine' item_litK ?k1 ?k2 ?k3 ?k4 ?_ ?k6; (case k1 => exact News.isList (by k_asm) (by k_mem)); (case k2 => decide); (case k3 => decide); (case k4 => rfl); (case k6 => with_unfolding_all rfl); k_whole))) | (k_end; kc_close) | walk1 | (dsimp only; walk1) | (leave1; walk_say "STEP leave1"; (try dsimp only)) | fail "no step"))
  · have hs := ‹∀ p ∈ (_ : List (Addr × Obj)), p.1 ≠ _ → p ∈ _›
    have lt := ‹∀ p ∈ news, p.1 < _›
    rename News _ _ _ _ => N9; rename Fr _ _ _ _ => F9
    refine hyes _ _ _ _ _ _ _ (fun q hq => ?_) (by assumption) (fun p hp => ?_) F9 N9
    · have hq' := hs q (by k_mem) (Nat.ne_of_lt (lt q hq))
      have l9 := ‹_ < _ ∧ AllLt _ _›
      exact ktn_ltOf l9.2 q hq'
    exact List.mem_cons_of_mem _ (hs p (by k_mem) (Nat.ne_of_lt (lt p hp)))
  · have hs := ‹∀ p ∈ (_ : List (Addr × Obj)), p.1 ≠ _ → p ∈ _›
    have lt := ‹∀ p ∈ news, p.1 < _›
    exact hno _ _ _ (by assumption) (fun p hp => hs p (by k_mem) (Nat.ne_of_lt (lt p hp))) (by assumption) (by assumption)
end
end
section
section
variable {w : World} {dp un : Nat} {gd : Option (List Code)} {cn : Str} {cs : Scope} {a : Addr} {ccd : Value} {cl : List (Str × Addr)} {outer : List Env} {A₀ : Around} {base h₀ : Heap} {L : Addr} {m : Str → Option Value} {news : List (Addr × Obj)} {s : Shared} {p : Program} {loose : List Str} {mean : ExcName → Option Value} {mg mb : Str → Option Value} {Q E : Value → Shared → Prop}

/-- a found place: (i, e, []) -/
def MTup (old nw : List (Addr × Obj)) (R : Addr) (i e : Int) : Prop := ∃ (g : Addr) (t p : Tok) (kk : Nat), (∀ q ∈ old, q.1 < g) ∧ (R, ({ cls := .type "tuple", data := .seq #[.int i t, .int e p, .ref g] } : Obj)) ∈ nw ∧ (g, listOf ([] : List Value).toArray kk) ∈ nw
theorem MTup.mono {old old' nw nw' : List (Addr × Obj)} {R : Addr} {i e : Int} (h : MTup old nw R i e) (k0 : ∀ p ∈ old', p ∈ old) (k : ∀ p ∈ nw, p ∈ nw') : MTup old' nw' R i e := by
  obtain ⟨g, t, p, kk, c, a, b⟩ := h
  exact ⟨g, t, p, kk, fun q hq => c q (k0 q hq), k _ a, k _ b⟩

theorem match_from_ok (B : Below A₀ base outer h₀) (F : Fr h₀ L s.heap m) (X : (hd.heap_1_39 w.params).In h₀) (N : News h₀ L s.heap news) (T : Top p loose mean mg mb h₀) (hk : cs.kind = .function) (hdd : dp + 20 < recursionLimit) (hu : un + 200 < cLine) (P lm : Addr) (fl : Str) (W l : List Nat) (i : Nat) (iI : Int) (tt ti : Tok) (ic : Bool) (hiI : iI = (i : Nat)) (hfl : fl.length ≤ 10) (hic : (!(Builtin.Str.occurrences fl (Str.ofString "i") 0 fl.length 1).isEmpty) = ic) (hl : l.length ≤ 6) (hi : i ≤ l.length) (hW : W.length ≤ 7) (hP : PatIn w news P W fl) (hlm : LimIn w news lm) (hfc : ∀ c ∈ W, ic = true → Fold c) (hfe : ∀ e ∈ l, ic = true → Fold e)
  (hyes : ∀ R rest h' tk', MatchAt ic W l i → MTup news rest R (i : Nat) ((i : Int) + (W.length : Nat)) → (∀ p ∈ news, p ∈ rest) → Fr h₀ L h' m → News h₀ L h' rest → Q (.ref R) {s with heap := h', toks := tk'})
  (hno : ∀ rest h' tk', ¬ MatchAt ic W l i → (∀ p ∈ news, p ∈ rest) → Fr h₀ L h' m → News h₀ L h' rest → Q .none {s with heap := h', toks := tk'}) :
  wpAny (model prog w) (ktrTop dp un gd cn cs L a ccd cl outer) (call (.ref 654) [.ref P, .str (S l) tt, .int iI ti, .ref lm]) Q E s := by
  obtain ⟨d, C, sl, mt, ws, kk, k1, k2, k3, k4, t1, t2, t3, z1, z2, hP1, hP2, hP3, hP4, hP5, hP6⟩ := hP
  unfold patD at hP2
  subst hic
  subst hiI
  refine wpAny_call ?_
  cell_enter
  (repeat' (first | (k_unfold; (try dsimp only)) | (((with_reducible show wpAny _ _ (call (Value.ref 415) _) _ _ _); k_dflt (refine' match_code_ok ?k1 ?k2 ?k3 ?k4 ?k5 ?kK ?kd ?ku _ _ _ _ _ _ _ _ _ _ _ _ _ _ _ _ ?ka ?kb ?kc ?ke ?kf ?kg ?kh ?ki ?kj ?kk ?_ ?_; (case k1 => k_asm); (case k2 => k_asm); (case k3 => k_asm); (case k4 => k_asm); (case k5 => k_asm); (case kK => first | exact rfl | assumption); (case kd => ktr_room); (case ku => ktr_units); (case ka => assumption); (case kb => assumption); (case kc => assumption); (case ke => k_mem); (case kf => k_mem); (case kg => k_mem); (case kh => assumption); (case ki => assumption); (case kj => assumption); (case kk => assumption); skip); (intro R9 g9 p9 kk9 rest9 h9 tk9 hg9 hM9 hs9 F9 N9); (try dsimp only); (try k_fold); rotate_left; (intro rest9 h9 tk9 hM9 hs9 F9 N9); (try dsimp only); (try k_fold); rotate_left)) | ((with_reducible show wpAny _ _ (call (Value.builtin "len") _) _ _ _); (k_here; (with_reducible show wpAny _ _ (call (Value.builtin "len") [Value.ref _]) _ _ _); k_dflt (refine' kst_len ?k1 ?k2 ?k3 ?k4 ?_; (case k1 => k_asm); (case k2 => k_mem); (case k3 => first | assumption | exact rfl); (case k4 => ((try simp only [List.length_append, List.length_cons, List.length_nil]); omega)); k_whole))) | ((with_reducible show wpAny _ _ (subscriptTail (Expr.Name _ _) (Expr.Constant _ _ _) _ _) _ _ _); (k_here; (with_reducible show wpAny _ _ (subscriptTail _ _ (Value.ref _) (Value.int _ _)) _ _ _); (with_unfolding_all refine' item_litK ?k1 ?k2 ?k3 ?k4 ?_ ?k6; (case k1 => exact News.isList (by k_asm) (by k_mem)); (case k2 => decide); (case k3 => decide); (case k4 => rfl); (case k6 => with_unfolding_all rfl); k_whole))) | (k_end; kc_close) | walk1 | (dsimp only; walk1) | (leave1; walk_say "STEP leave1"; (try dsimp only)) | fail "no step"))
  · have hs := ‹∀ p ∈ news, p ∈ _›
    exact hyes _ _ _ _ (by assumption) ⟨_, _, _, _, by assumption, List.mem_cons_self, List.mem_cons_of_mem _ (List.mem_cons_of_mem _ List.mem_cons_self)⟩ (fun p hp => List.mem_cons_of_mem _ (List.mem_cons_of_mem _ (List.mem_cons_of_mem _ (hs p hp)))) (by assumption) (by assumption)
  · have hs := ‹∀ p ∈ news, p ∈ _›
    exact hno _ _ _ (by assumption) hs (by assumption) (by assumption)
end
end
section
section
variable {w : World} {dp un : Nat} {gd : Option (List Code)} {cn : Str} {cs : Scope} {a : Addr} {ccd : Value} {cl : List (Str × Addr)} {outer : List Env} {A₀ : Around} {base h₀ : Heap} {L : Addr} {m : Str → Option Value} {news : List (Addr × Obj)} {s : Shared} {p : Program} {loose : List Str} {mean : ExcName → Option Value} {mg mb : Str → Option Value} {Q E : Value → Shared → Prop}

theorem find_ok (B : Below A₀ base outer h₀) (F : Fr h₀ L s.heap m) (X : (hd.heap_1_39 w.params).In h₀) (N : News h₀ L s.heap news) (T : Top p loose mean mg mb h₀) (hk : cs.kind = .function) (hdd : dp + 24 < recursionLimit) (hu : un + 240 < cLine) (P lm : Addr) (fl : Str) (W l : List Nat) (st : Nat) (sI : Int) (tt ti : Tok) (ic : Bool) (hsI : sI = (st : Nat)) (hfl : fl.length ≤ 10) (hic : (!(Builtin.Str.occurrences fl (Str.ofString "i") 0 fl.length 1).isEmpty) = ic) (hl : l.length ≤ 6) (hst : st ≤ l.length) (hW : W.length ≤ 7) (hP : PatIn w news P W fl) (hlm : LimIn w news lm) (hfc : ∀ c ∈ W, ic = true → Fold c) (hfe : ∀ e ∈ l, ic = true → Fold e)
  (hyes : ∀ R k rest h' tk', st ≤ k → k ≤ l.length → MatchAt ic W l k → (∀ j, st ≤ j → j < k → ¬ MatchAt ic W l j) → MTup news rest R (k : Nat) ((k : Int) + (W.length : Nat)) → (∀ p ∈ news, p ∈ rest) → Fr h₀ L h' m → News h₀ L h' rest → Q (.ref R) {s with heap := h', toks := tk'})
  (hno : ∀ rest h' tk', (∀ j, st ≤ j → j ≤ l.length → ¬ MatchAt ic W l j) → (∀ p ∈ news, p ∈ rest) → Fr h₀ L h' m → News h₀ L h' rest → Q .none {s with heap := h', toks := tk'}) :
  wpAny (model prog w) (ktrTop dp un gd cn cs L a ccd cl outer) (call (.ref 661) [.ref P, .str (S l) tt, .int sI ti, .ref lm]) Q E s := by
  subst hic
  subst hsI
  have hTl : (S l).length ≤ 10 := by rw [S_length]; omega
  refine wpAny_call ?_
  cell_enter
  (repeat ((fail_if_success (with_reducible show wpAny _ _ (pyIter _) _ _ _)); first | (k_unfold; (try dsimp only)) | (((with_reducible show wpAny _ _ (call (Value.ref 654) _) _ _ _); k_dflt (refine' match_from_ok ?k1 ?k2 ?k3 ?k4 ?k5 ?kK ?kd ?ku _ _ _ _ _ _ _ _ _ _ ?kI ?ka ?kb ?kc ?ke ?kf ?kg ?kh ?ki ?kj ?_ ?_; (case k1 => k_asm); (case k2 => k_asm); (case k3 => k_asm); (case k4 => k_asm); (case k5 => k_asm); (case kK => first | exact rfl | assumption); (case kd => ktr_room); (case ku => ktr_units); (case kg => exact PatIn.mono (by assumption) (fun p hp => by k_mem)); (case kI => assumption); (case ka => assumption); (case kb => exact rfl); (case kc => first | assumption | omega); (case ke => assumption); (case kf => assumption); (case kh => exact LimIn.mono (by assumption) (fun p hp => by k_mem)); (case ki => assumption); (case kj => assumption); skip); (intro R9 rest9 h9 tk9 hM9 hT9 hs9 F9 N9); (try dsimp only); (try k_fold); rotate_left; (intro rest9 h9 tk9 hM9 hs9 F9 N9); (try dsimp only); (try k_fold); rotate_left)) | ((with_reducible show wpAny _ _ (exec (Stmt.For (Expr.Name _ _) (Expr.Call _ _ _ _) _ _ _) _) _ _ _); (k_here; (rename Fr _ _ _ _ => lF'); (with_unfolding_all refine' For_turns lF' ?_; k_whole))) | ((with_reducible show wpAny _ _ (call (Value.builtin "len") _) _ _ _); (k_here; (with_reducible show wpAny _ _ (call (Value.builtin "len") [Value.ref _]) _ _ _); k_dflt (refine' kst_len ?k1 ?k2 ?k3 ?k4 ?_; (case k1 => k_asm); (case k2 => k_mem); (case k3 => first | assumption | exact rfl); (case k4 => ((try simp only [List.length_append, List.length_cons, List.length_nil]); omega)); k_whole))) | ((with_reducible show wpAny _ _ (subscriptTail (Expr.Name _ _) (Expr.Constant _ _ _) _ _) _ _ _); (k_here; (with_reducible show wpAny _ _ (subscriptTail _ _ (Value.ref _) (Value.int _ _)) _ _ _); (with_unfolding_all refine' item_litK ?k1 ?k2 ?k3 ?k4 ?_ ?k6; (case k1 => exact News.isList (by k_asm) (by k_mem)); (case k2 => decide); (case k3 => decide); (case k4 => rfl); (case k6 => with_unfolding_all rfl); k_whole))) | walk1 | (dsimp only; walk1)))
  rename IsRange _ _ _ _ _ _ _ _ => hR
  rename Fr _ _ _ _ => F1; rename News _ _ _ _ => N1
  refine' turns_range (n := l.length + 1 - st) [Str.ofString "at", Str.ofString "found"] ?hh hR ?hs ?hn F1 N1 (fun k _ nw => nw = news ∧ ∀ j, st ≤ j → j < st + k → ¬ MatchAt (!(Builtin.Str.occurrences fl (Str.ofString "i") 0 fl.length 1).isEmpty) W l j) ?h0 ?_ ?_
  case hh => rfl
  case hs => exact small_one (by omega) (by omega) (by omega) (by omega)
  case hn => rw [rangeSize_nat, S_length]; omega
  case h0 => exact ⟨rfl, fun j h1 h2 => by omega⟩
  · rintro k t u nw h tk own hk ⟨rfl, hno'⟩ F2 N2
    have hkv : (st : Int) + (k : Nat) * 1 = ((st + k : Nat) : Int) := by omega
    have hkl : st + k ≤ l.length := by omega
    (repeat' (first | (k_unfold; (try dsimp only)) | (((with_reducible show wpAny _ _ (call (Value.ref 654) _) _ _ _); k_dflt (refine' match_from_ok ?k1 ?k2 ?k3 ?k4 ?k5 ?kK ?kd ?ku _ _ _ _ _ _ _ _ _ _ ?kI ?ka ?kb ?kc ?ke ?kf ?kg ?kh ?ki ?kj ?_ ?_; (case k1 => k_asm); (case k2 => k_asm); (case k3 => k_asm); (case k4 => k_asm); (case k5 => k_asm); (case kK => first | exact rfl | assumption); (case kd => ktr_room); (case ku => ktr_units); (case kg => exact PatIn.mono (by assumption) (fun p hp => by k_mem)); (case kI => assumption); (case ka => assumption); (case kb => exact rfl); (case kc => first | assumption | omega); (case ke => assumption); (case kf => assumption); (case kh => exact LimIn.mono (by assumption) (fun p hp => by k_mem)); (case ki => assumption); (case kj => assumption); skip); (intro R9 rest9 h9 tk9 hM9 hT9 hs9 F9 N9); (try dsimp only); (try k_fold); rotate_left; (intro rest9 h9 tk9 hM9 hs9 F9 N9); (try dsimp only); (try k_fold); rotate_left)) | ((with_reducible show wpAny _ _ (exec (Stmt.For (Expr.Name _ _) (Expr.Call _ _ _ _) _ _ _) _) _ _ _); (k_here; (rename Fr _ _ _ _ => lF'); (with_unfolding_all refine' For_turns lF' ?_; k_whole))) | ((with_reducible show wpAny _ _ (call (Value.builtin "len") _) _ _ _); (k_here; (with_reducible show wpAny _ _ (call (Value.builtin "len") [Value.ref _]) _ _ _); k_dflt (refine' kst_len ?k1 ?k2 ?k3 ?k4 ?_; (case k1 => k_asm); (case k2 => k_mem); (case k3 => first | assumption | exact rfl); (case k4 => ((try simp only [List.length_append, List.length_cons, List.length_nil]); omega)); k_whole))) | ((with_reducible show wpAny _ _ (subscriptTail (Expr.Name _ _) (Expr.Constant _ _ _) _ _) _ _ _); (k_here; (with_reducible show wpAny _ _ (subscriptTail _ _ (Value.ref _) (Value.int _ _)) _ _ _); (with_unfolding_all refine' item_litK ?k1 ?k2 ?k3 ?k4 ?_ ?k6; (case k1 => exact News.isList (by k_asm) (by k_mem)); (case k2 => decide); (case k3 => decide); (case k4 => rfl); (case k6 => with_unfolding_all rfl); k_whole))) | (k_end; kc_close) | walk1 | (dsimp only; walk1) | (leave1; walk_say "STEP leave1"; (try dsimp only)) | fail "no step"))
    · have hs := ‹∀ p ∈ own ++ nw, p ∈ _›
      exact hyes _ (st + k) _ _ _ (by omega) hkl (by assumption) (fun j h1 h2 => hno' j h1 h2) (MTup.mono (by assumption) (fun p hp => List.mem_append_right _ hp) (fun p hp => hp)) (fun p hp => hs p (List.mem_append_right _ hp)) (by assumption) (by assumption)
    · have hs := ‹∀ p ∈ own ++ nw, p ∈ _›
      have hM := ‹¬ MatchAt _ W l (st + k)›
      rename News _ _ _ _ => N9; rename Fr _ _ _ _ => F9
      refine ⟨_, _, _, _, rfl, F9, fun p hp => N9 p (hs p hp), rfl, by ((intro y hy; have hc := hy; (simp only [List.contains_cons, List.contains_nil, Bool.or_false, Bool.or_eq_false_iff, beq_eq_false_iff_ne, ne_eq] at hc); (simp [upd, hy, hc]))), rfl, fun j h1 h2 => ?_⟩
      by_cases hj : j < st + k
      · exact hno' j h1 hj
      · obtain rfl : j = st + k := by omega
        exact hM
  · rintro u nw h tk ⟨rfl, hno'⟩ F2 N2
    (repeat' (first | (k_unfold; (try dsimp only)) | (((with_reducible show wpAny _ _ (call (Value.ref 654) _) _ _ _); k_dflt (refine' match_from_ok ?k1 ?k2 ?k3 ?k4 ?k5 ?kK ?kd ?ku _ _ _ _ _ _ _ _ _ _ ?kI ?ka ?kb ?kc ?ke ?kf ?kg ?kh ?ki ?kj ?_ ?_; (case k1 => k_asm); (case k2 => k_asm); (case k3 => k_asm); (case k4 => k_asm); (case k5 => k_asm); (case kK => first | exact rfl | assumption); (case kd => ktr_room); (case ku => ktr_units); (case kg => exact PatIn.mono (by assumption) (fun p hp => by k_mem)); (case kI => assumption); (case ka => assumption); (case kb => exact rfl); (case kc => first | assumption | omega); (case ke => assumption); (case kf => assumption); (case kh => exact LimIn.mono (by assumption) (fun p hp => by k_mem)); (case ki => assumption); (case kj => assumption); skip); (intro R9 rest9 h9 tk9 hM9 hT9 hs9 F9 N9); (try dsimp only); (try k_fold); rotate_left; (intro rest9 h9 tk9 hM9 hs9 F9 N9); (try dsimp only); (try k_fold); rotate_left)) | ((with_reducible show wpAny _ _ (exec (Stmt.For (Expr.Name _ _) (Expr.Call _ _ _ _) _ _ _) _) _ _ _); (k_here; (rename Fr _ _ _ _ => lF'); (with_unfolding_all refine' For_turns lF' ?_; k_whole))) | ((with_reducible show wpAny _ _ (call (Value.builtin "len") _) _ _ _); (k_here; (with_reducible show wpAny _ _ (call (Value.builtin "len") [Value.ref _]) _ _ _); k_dflt (refine' kst_len ?k1 ?k2 ?k3 ?k4 ?_; (case k1 => k_asm); (case k2 => k_mem); (case k3 => first | assumption | exact rfl); (case k4 => ((try simp only [List.length_append, List.length_cons, List.length_nil]); omega)); k_whole))) | ((with_reducible show wpAny _ _ (subscriptTail (Expr.Name _ _) (Expr.Constant _ _ _) _ _) _ _ _); (k_here; (with_reducible show wpAny _ _ (subscriptTail _ _ (Value.ref _) (Value.int _ _)) _ _ _); (with_unfolding_all refine' item_litK ?k1 ?k2 ?k3 ?k4 ?_ ?k6; (case k1 => exact News.isList (by k_asm) (by k_mem)); (case k2 => decide); (case k3 => decide); (case k4 => rfl); (case k6 => with_unfolding_all rfl); k_whole))) | (k_end; kc_close) | walk1 | (dsimp only; walk1) | (leave1; walk_say "STEP leave1"; (try dsimp only)) | fail "no step"))
    exact hno _ _ _ (fun j h1 h2 => hno' j h1 (by omega)) (fun _ hp => hp) (by assumption) (by assumption)
end
end
section
section
variable {w : World} {dp un : Nat} {gd : Option (List Code)} {cn : Str} {cs : Scope} {a : Addr} {ccd : Value} {cl : List (Str × Addr)} {outer : List Env} {A₀ : Around} {base h₀ : Heap} {L : Addr} {m : Str → Option Value} {news : List (Addr × Obj)} {s : Shared} {p : Program} {loose : List Str} {mean : ExcName → Option Value} {mg mb : Str → Option Value} {Q E : Value → Shared → Prop}

theorem find_in (B : Below A₀ base outer h₀) (F : Fr h₀ L s.heap m) (X : (hd.heap_1_39 w.params).In h₀) (T : Top p loose mean mg mb h₀) (hk : cs.kind = .function) (hdd : dp + 24 < recursionLimit) (hu : un + 240 < cLine) (lf : Addr) (o : Obj) (ho : o.cls = .type "list") (N : News h₀ L s.heap ((lf, o) :: news)) (hne : ∀ p ∈ news, p.1 ≠ lf) (P lm : Addr) (fl : Str) (W l : List Nat) (st : Nat) (sI : Int) (tt ti : Tok) (ic : Bool) (hsI : sI = (st : Nat)) (hfl : fl.length ≤ 10) (hic : (!(Builtin.Str.occurrences fl (Str.ofString "i") 0 fl.length 1).isEmpty) = ic) (hl : l.length ≤ 6) (hst : st ≤ l.length) (hW : W.length ≤ 7) (hP : PatIn w news P W fl) (hlm : LimIn w news lm) (hfc : ∀ c ∈ W, ic = true → Fold c) (hfe : ∀ e ∈ l, ic = true → Fold e)
  (hyes : ∀ R k rest h' tk', st ≤ k → k ≤ l.length → MatchAt ic W l k → (∀ j, st ≤ j → j < k → ¬ MatchAt ic W l j) → MTup [] rest R (k : Nat) ((k : Int) + (W.length : Nat)) → (∀ p ∈ news, p ∈ rest) → (∀ p ∈ rest, p.1 ≠ lf) → Fr h₀ L h' m → News h₀ L h' ((lf, o) :: rest) → Q (.ref R) {s with heap := h', toks := tk'})
  (hno : ∀ rest h' tk', (∀ j, st ≤ j → j ≤ l.length → ¬ MatchAt ic W l j) → (∀ p ∈ news, p ∈ rest) → (∀ p ∈ rest, p.1 ≠ lf) → Fr h₀ L h' m → News h₀ L h' ((lf, o) :: rest) → Q .none {s with heap := h', toks := tk'}) :
  wpAny (model prog w) (ktrTop dp un gd cn cs L a ccd cl outer) (call (.ref 661) [.ref P, .str (S l) tt, .int sI ti, .ref lm]) Q E s := by
  have key : ∀ (rest : List (Addr × Obj)) h', (∀ p ∈ (lf, o) :: news, p ∈ rest) → News h₀ L h' rest → (∀ p ∈ news, p ∈ rest.filter fun p => decide (p.1 ≠ lf)) ∧ (∀ p ∈ rest.filter (fun p => decide (p.1 ≠ lf)), p.1 ≠ lf) ∧ News h₀ L h' ((lf, o) :: rest.filter fun p => decide (p.1 ≠ lf)) := by
    intro rest h' hs N'
    refine ⟨fun p hp => List.mem_filter.mpr ⟨hs p (List.mem_cons_of_mem _ hp), by simpa using hne p hp⟩, fun p hp => by simpa using (List.mem_filter.mp hp).2, fun p hp => ?_⟩
    rcases List.mem_cons.mp hp with rfl | hp
    · exact N' _ (hs _ List.mem_cons_self)
    · exact N' _ (List.mem_filter.mp hp).1
  refine find_ok (news := (lf, o) :: news) B F X N T hk hdd hu P lm fl W l st sI tt ti ic hsI hfl hic hl hst hW (hP.mono fun p hp => List.mem_cons_of_mem _ hp) (hlm.mono fun p hp => List.mem_cons_of_mem _ hp) hfc hfe ?_ ?_
  · intro R k rest h' tk' h1 h2 h3 h4 hT hs F' N'
    obtain ⟨a1, a2, a3⟩ := key rest h' hs N'
    refine hyes R k _ h' tk' h1 h2 h3 h4 ?_ a1 a2 F' a3
    obtain ⟨g, t, p, kk, b1, b2, b3⟩ := hT
    have hR : R ≠ lf := obj_ne N' b2 (hs _ List.mem_cons_self) (by rw [ho]; show ¬ (Value.type "tuple" = Value.type "list"); intro e; injection e with e; exact absurd e (by decide))
    exact ⟨g, t, p, kk, (fun _ h => nomatch h), List.mem_filter.mpr ⟨b2, by simpa using hR⟩, List.mem_filter.mpr ⟨b3, by simpa using Nat.ne_of_gt (b1 _ List.mem_cons_self)⟩⟩
  · intro rest h' tk' h1 hs F' N'
    obtain ⟨a1, a2, a3⟩ := key rest h' hs N'
    exact hno _ h' tk' h1 a1 a2 F' a3
end
end
section
section
variable {w : World} {dp un : Nat} {gd : Option (List Code)} {cn : Str} {cs : Scope} {a : Addr} {ccd : Value} {cl : List (Str × Addr)} {outer : List Env} {A₀ : Around} {base h₀ : Heap} {L : Addr} {m : Str → Option Value} {news : List (Addr × Obj)} {s : Shared} {p : Program} {loose : List Str} {mean : ExcName → Option Value} {mg mb : Str → Option Value} {Q E : Value → Shared → Prop}

inductive Acc (ic : Bool) (W l : List Nat) : List Nat → Nat → Prop
  | nil : Acc ic W l [] 0
  | snoc {ms : List Nat} {st k : Nat} : Acc ic W l ms st → st ≤ k → k ≤ l.length → MatchAt ic W l k → (∀ j, st ≤ j → j < k → ¬ MatchAt ic W l j) → Acc ic W l (ms ++ [k]) (k + W.length)
theorem Acc.bound {ic : Bool} {W l : List Nat} {ms : List Nat} {st : Nat} (h : Acc ic W l ms st) (hW : 0 < W.length) : ms.length ≤ st := by
  induction h with
  | nil => exact Nat.le_refl _
  | snoc _ h1 _ _ _ ih => simp; omega
def Done (ic : Bool) (W l : List Nat) (ms : List Nat) : Prop := ∃ st, Acc ic W l ms st ∧ ∀ j, st ≤ j → j ≤ l.length → ¬ MatchAt ic W l j
theorem nm2 {d a : Nat} (h : d < a) : ∃ b, b = d ∧ b < a := ⟨d, rfl, h⟩
def MTups (nw : List (Addr × Obj)) (vs : List Value) (ms : List Nat) (n : Nat) : Prop := vs.length = ms.length ∧ ∀ (i k : Nat), ms[i]? = some k → ∃ R, vs[i]? = some (.ref R) ∧ MTup [] nw R (k : Nat) ((k : Int) + (n : Nat))
theorem MTups.mono {nw nw' : List (Addr × Obj)} {vs : List Value} {ms : List Nat} {n : Nat} (h : MTups nw vs ms n) (k : ∀ p ∈ nw, p ∈ nw') : MTups nw' vs ms n :=
  ⟨h.1, fun i c e => let ⟨R, x, y⟩ := h.2 i c e; ⟨R, x, y.mono (fun _ h => h) k⟩⟩
theorem MTups.snoc {nw : List (Addr × Obj)} {vs : List Value} {ms : List Nat} {n k : Nat} {R : Addr} (h : MTups nw vs ms n) (hR : MTup [] nw R (k : Nat) ((k : Int) + (n : Nat))) : MTups nw (vs ++ [.ref R]) (ms ++ [k]) n := by
  refine ⟨by simp [h.1], fun i e he => ?_⟩
  by_cases hi : i < ms.length
  · rw [List.getElem?_append_left hi] at he
    obtain ⟨b, x, y⟩ := h.2 i e he
    exact ⟨b, by rw [List.getElem?_append_left (by rw [h.1]; exact hi)]; exact x, y⟩
  · have hl := (List.getElem?_eq_some_iff.mp he).1
    have hi' : i = ms.length := by simp at hl; omega
    subst hi'
    rw [List.getElem?_append_right (Nat.le_refl _), Nat.sub_self] at he
    obtain rfl : k = e := by simpa using he
    exact ⟨R, by rw [← h.1, List.getElem?_append_right (Nat.le_refl _), Nat.sub_self]; rfl, hR⟩
theorem MatchAt.fits {ic : Bool} {W l : List Nat} {k : Nat} (h : MatchAt ic W l k) (hW : 0 < W.length) : k + W.length ≤ l.length := by
  obtain ⟨e, he, _⟩ := h (W.length - 1) W[W.length - 1] (by simp [hW])
  have := (List.getElem?_eq_some_iff.mp he).1
  omega

theorem every_ok (B : Below A₀ base outer h₀) (F : Fr h₀ L s.heap m) (X : (hd.heap_1_39 w.params).In h₀) (N : News h₀ L s.heap news) (T : Top p loose mean mg mb h₀) (hk : cs.kind = .function) (hdd : dp + 28 < recursionLimit) (hu : un + 280 < cLine) (P lm : Addr) (fl : Str) (W l : List Nat) (tt : Tok) (ic : Bool) (hfl : fl.length ≤ 10) (hic : (!(Builtin.Str.occurrences fl (Str.ofString "i") 0 fl.length 1).isEmpty) = ic) (hl : l.length ≤ 6) (hW0 : 0 < W.length) (hW : W.length ≤ 7) (hP : PatIn w news P W fl) (hlm : LimIn w news lm) (hfc : ∀ c ∈ W, ic = true → Fold c) (hfe : ∀ e ∈ l, ic = true → Fold e)
  (hret : ∀ lf vs ms kk rest h' tk', Done ic W l ms → MTups rest vs ms W.length → (∀ p ∈ news, p ∈ rest) → (∀ p ∈ rest, p.1 ≠ lf) → Fr h₀ L h' m → News h₀ L h' ((lf, listOf vs.toArray kk) :: rest) → Q (.ref lf) {s with heap := h', toks := tk'}) :
  wpAny (model prog w) (ktrTop dp un gd cn cs L a ccd cl outer) (call (.ref 668) [.ref P, .str (S l) tt, .ref lm]) Q E s := by
  subst hic
  have hSl := S_length l
  have hTl : (S l).length ≤ 10 := by rw [S_length]; omega
  refine wpAny_call ?_
  cell_enter
  (repeat ((fail_if_success (with_reducible show wpAny _ _ (exec (Stmt.While _ _ _ _) _) _ _ _)); first | (k_unfold; (try dsimp only)) | (((with_reducible show wpAny _ _ (call (Value.ref 661) _) _ _ _); k_dflt (refine' find_in ?k1 ?k2 ?k3 ?k5 ?kK ?kd ?ku _ _ ?kZ ?k4 ?kN _ _ _ _ _ _ _ _ _ _ ?kI ?ka ?kb ?kc ?ke ?kf ?kg ?kh ?ki ?kj ?_ ?_; (case k1 => k_asm); (case k2 => k_asm); (case k3 => k_asm); (case k5 => k_asm); (case kK => first | exact rfl | assumption); (case kd => ktr_room); (case ku => ktr_units); (case k4 => k_asm); (case kZ => exact rfl); (case kN => assumption); (case kg => exact PatIn.mono (by assumption) (fun p hp => by k_mem)); (case kI => assumption); (case ka => assumption); (case kb => exact rfl); (case kc => assumption); (case ke => assumption); (case kf => assumption); (case kh => exact LimIn.mono (by assumption) (fun p hp => by k_mem)); (case ki => assumption); (case kj => assumption); skip); (intro R9 k9 rest9 h9 tk9 hk9 hk9 hM9 hM9 hT9 hs9 hn9 F9 N9); k_dflt (rcases hT9 with ⟨g9, t9, p9, kk9, hz9, hR9, hg9⟩); (try dsimp only); (try k_fold); rotate_left; (intro rest9 h9 tk9 hM9 hs9 hn9 F9 N9); (try dsimp only); (try k_fold); rotate_left)) | ((with_reducible show wpAny _ _ (call (Value.builtin "len") _) _ _ _); (k_here; (with_reducible show wpAny _ _ (call (Value.builtin "len") [Value.ref _]) _ _ _); k_dflt (refine' kst_len ?k1 ?k2 ?k3 ?k4 ?_; (case k1 => k_asm); (case k2 => k_mem); (case k3 => first | assumption | exact rfl); (case k4 => ((try simp only [List.length_append, List.length_cons, List.length_nil]); omega)); k_whole))) | ((with_reducible show wpAny _ _ (subscriptTail (Expr.Name _ _) (Expr.Constant _ _ _) _ _) _ _ _); (k_here; (with_reducible show wpAny _ _ (subscriptTail _ _ (Value.ref _) (Value.int _ _)) _ _ _); (with_unfolding_all refine' item_litK ?k1 ?k2 ?k3 ?k4 ?_ ?k6; (case k1 => exact News.isList (by k_asm) (by k_mem)); (case k2 => decide); (case k3 => decide); (case k4 => rfl); (case k6 => with_unfolding_all rfl); k_whole))) | walk1 | (dsimp only; walk1)))
  have lt1 := ‹∀ p ∈ news, p.1 < _›
  rename _ ∧ AllLt _ _ => l1
  rename Fr _ _ _ _ => F1; rename News _ _ _ _ => N1
  obtain ⟨tp, rfl, _⟩ := nm_lt l1.1
  obtain ⟨lf, rfl, _⟩ := nm2 l1.1
  refine while_inv (n₀ := l.length + 1) [Str.ofString "start", Str.ofString "last_end", Str.ofString "met"] (fun nn u nw => ∃ (vs : List Value) (ms : List Nat) (st kk : Nat) (sI : Int) (ts te : Tok) (rest : List (Addr × Obj)), nw = (lf, listOf vs.toArray kk) :: rest ∧ (∀ p ∈ news, p ∈ rest) ∧ (∀ p ∈ rest, p.1 ≠ lf) ∧ Acc (!(Builtin.Str.occurrences fl (Str.ofString "i") 0 fl.length 1).isEmpty) W l ms st ∧ MTups rest vs ms W.length ∧ nn + st = l.length + 1 ∧ st ≤ l.length ∧ sI = (st : Nat) ∧ u (Str.ofString "start") = some (.int sI ts) ∧ u (Str.ofString "last_end") = some (.int sI te)) F1 (newsA N1) ⟨[], [], 0, 0, 0, _, _, _, rfl, fun p hp => List.mem_cons_of_mem _ hp, List.forall_mem_cons.mpr ⟨Nat.ne_of_gt l1.1, fun p hp => Nat.ne_of_lt (lt1 p hp)⟩, .nil, ⟨rfl, fun i c e => by simp at e⟩, rfl, Nat.zero_le _, rfl, rfl, rfl⟩ ?_
  rintro nn u nw h tk ⟨vs, ms, st, kk, sI, ts, te, rest, rfl, hr1, hr2, hA, hMs, hnn, hst, hsI, hu1, hu2⟩ F2 N2
  have F3 := fr_put (x := Str.ofString "start") (v := .int sI ts) (fr_put (x := Str.ofString "last_end") (v := .int sI te) F2 (by simp [upd, hu2])) (by show ite _ _ _ = _; rw [if_neg (by decide +kernel)]; simp [upd, hu1])
  clear F2
  have hP' := hP.mono hr1
  have hlm' := hlm.mono hr1
  clear hP hlm
  have hvs : vs.length ≤ 10 := by
    have h1 := hA.bound hW0
    have h2 := hMs.1
    omega
  (repeat' (first | (k_unfold; (try dsimp only)) | (((with_reducible show wpAny _ _ (call (Value.ref 661) _) _ _ _); k_dflt (refine' find_in ?k1 ?k2 ?k3 ?k5 ?kK ?kd ?ku _ _ ?kZ ?k4 ?kN _ _ _ _ _ _ _ _ _ _ ?kI ?ka ?kb ?kc ?ke ?kf ?kg ?kh ?ki ?kj ?_ ?_; (case k1 => k_asm); (case k2 => k_asm); (case k3 => k_asm); (case k5 => k_asm); (case kK => first | exact rfl | assumption); (case kd => ktr_room); (case ku => ktr_units); (case k4 => k_asm); (case kZ => exact rfl); (case kN => assumption); (case kg => exact PatIn.mono (by assumption) (fun p hp => by k_mem)); (case kI => assumption); (case ka => assumption); (case kb => exact rfl); (case kc => assumption); (case ke => assumption); (case kf => assumption); (case kh => exact LimIn.mono (by assumption) (fun p hp => by k_mem)); (case ki => assumption); (case kj => assumption); skip); (intro R9 k9 rest9 h9 tk9 hk9 hk9 hM9 hM9 hT9 hs9 hn9 F9 N9); k_dflt (rcases hT9 with ⟨g9, t9, p9, kk9, hz9, hR9, hg9⟩); (try dsimp only); (try k_fold); rotate_left; (intro rest9 h9 tk9 hM9 hs9 hn9 F9 N9); (try dsimp only); (try k_fold); rotate_left)) | ((with_reducible show wpAny _ _ (call (Value.builtin "len") _) _ _ _); (k_here; (with_reducible show wpAny _ _ (call (Value.builtin "len") [Value.ref _]) _ _ _); k_dflt (refine' kst_len ?k1 ?k2 ?k3 ?k4 ?_; (case k1 => k_asm); (case k2 => k_mem); (case k3 => first | assumption | exact rfl); (case k4 => ((try simp only [List.length_append, List.length_cons, List.length_nil]); omega)); k_whole))) | ((with_reducible show wpAny _ _ (subscriptTail (Expr.Name _ _) (Expr.Constant _ _ _) _ _) _ _ _); (k_here; (with_reducible show wpAny _ _ (subscriptTail _ _ (Value.ref _) (Value.int _ _)) _ _ _); (with_unfolding_all refine' item_litK ?k1 ?k2 ?k3 ?k4 ?_ ?k6; (case k1 => exact News.isList (by k_asm) (by k_mem)); (case k2 => decide); (case k3 => decide); (case k4 => rfl); (case k6 => with_unfolding_all rfl); k_whole))) | (k_end; kc_close) | walk1 | (dsimp only; walk1) | (leave1; walk_say "STEP leave1"; (try dsimp only)) | fail "no step"))
  · have hk := ‹st ≤ _›
    exfalso
    omega
  · have hM := ‹MatchAt _ W l _›
    have hfit := hM.fits hW0
    have hs := ‹∀ p ∈ rest, p ∈ _›
    rename News _ _ _ _ => N9; rename Fr _ _ _ _ => F9
    refine ⟨_, _, _, _, _, rfl, F9, N9, ?_, by ((intro y hy; have hc := hy; (simp only [List.contains_cons, List.contains_nil, Bool.or_false, Bool.or_eq_false_iff, beq_eq_false_iff_ne, ne_eq] at hc); (simp [upd, hy, hc]))), _, _, _, _, _, _, _, _, rfl, fun p hp => hs p (hr1 p hp), by assumption, .snoc hA (by assumption) (by assumption) hM (by assumption), (hMs.mono hs).snoc ⟨_, _, _, _, by assumption, by assumption, by assumption⟩, Nat.sub_add_cancel (Nat.le_succ_of_le hfit), hfit, (Int.natCast_add _ _).symm, by first | rfl | (simp; done) | (show ite _ _ _ = _; rw [if_neg (by decide +kernel)]; simp; done) | (show ite _ _ _ = _; rw [if_neg (by decide +kernel)]; show ite _ _ _ = _; rw [if_neg (by decide +kernel)]; simp; done), by first | rfl | (simp; done) | (show ite _ _ _ = _; rw [if_neg (by decide +kernel)]; simp; done) | (show ite _ _ _ = _; rw [if_neg (by decide +kernel)]; show ite _ _ _ = _; rw [if_neg (by decide +kernel)]; simp; done)⟩
    omega
  · have hs := ‹∀ p ∈ rest, p ∈ _›
    exact hret lf vs ms _ _ _ _ ⟨st, hA, by assumption⟩ (hMs.mono hs) (fun p hp => hs p (hr1 p hp)) (by assumption) (by assumption) (by assumption)
end
end
section
section
variable {w : World} {dp un : Nat} {gd : Option (List Code)} {cn : Str} {cs : Scope} {a : Addr} {ccd : Value} {cl : List (Str × Addr)} {outer : List Env} {A₀ : Around} {base h₀ : Heap} {L : Addr} {m : Str → Option Value} {news : List (Addr × Obj)} {s : Shared} {p : Program} {loose : List Str} {mean : ExcName → Option Value} {mg mb : Str → Option Value} {Q E : Value → Shared → Prop}

theorem matchF {W l : List Nat} {i : Nat} : MatchAt false W l i ↔ (l.drop i).take W.length = W := by
  constructor
  · intro h
    apply List.ext_getElem?
    intro j
    rw [List.getElem?_take]
    by_cases hj : j < W.length
    · rw [if_pos hj, List.getElem?_drop]
      obtain ⟨e, he, hq⟩ := h j W[j] (by simp [hj])
      rw [he]
      simp [eqc] at hq
      simp [hj, hq]
    · rw [if_neg hj]
      simp at hj
      simp [hj]
  · intro h j c hc
    have hj := (List.getElem?_eq_some_iff.mp hc).1
    rw [← h, List.getElem?_take, if_pos hj, List.getElem?_drop] at hc
    exact ⟨c, hc, by simp [eqc]⟩
theorem stands_bool {W l : List Nat} {i : Nat} : (Txt.slice (S l) (some (i : Int)) (some ((i : Int) + ((S W).length : Nat))) == S W) = true ↔ MatchAt false W l i := by
  rw [S_length, show ((i : Int) + (W.length : Nat)) = ((i + W.length : Nat) : Int) by omega, slice_S l i _ (by omega), S_eq, decide_eq_true_iff, matchF, show i + W.length - i = W.length by omega]

theorem stands_ok (B : Below A₀ base outer h₀) (F : Fr h₀ L s.heap m) (X : (hd.heap_1_39 w.params).In h₀) (N : News h₀ L s.heap news) (T : Top p loose mean mg mb h₀) (hk : cs.kind = .function) (hdd : dp + 4 < recursionLimit) (hu : un + 40 < cLine) (W l : List Nat) (i : Nat) (iI : Int) (t1 t2 t3 : Tok) (hiI : iI = (i : Nat)) (hl : l.length ≤ 6) (hW : W.length ≤ 7) (hi : i ≤ 10)
  (hyes : ∀ h' tk', MatchAt false W l i → Fr h₀ L h' m → News h₀ L h' news → Q (.bool true) {s with heap := h', toks := tk'})
  (hno : ∀ h' tk', ¬ MatchAt false W l i → Fr h₀ L h' m → News h₀ L h' news → Q (.bool false) {s with heap := h', toks := tk'}) :
  wpAny (model prog w) (ktrTop dp un gd cn cs L a ccd cl outer) (call (.ref 708) [.str (S l) t1, .str (S W) t2, .int iI t3]) Q E s := by
  subst hiI
  have hTl : (S l).length ≤ 10 := by rw [S_length]; omega
  have hWl : (S W).length ≤ 10 := by rw [S_length]; omega
  refine wpAny_call ?_
  cell_enter
  k_steps
  by_cases hM : MatchAt false W l i
  · rw [stands_bool.mpr hM]
    exact hyes _ _ hM (by assumption) (by assumption)
  · rw [Bool.eq_false_iff.mpr fun e => hM (stands_bool.mp e)]
    exact hno _ _ hM (by assumption) (by assumption)

theorem clamp_ok (B : Below A₀ base outer h₀) (F : Fr h₀ L s.heap m) (X : (hd.heap_1_39 w.params).In h₀) (N : News h₀ L s.heap news) (T : Top p loose mean mg mb h₀) (hk : cs.kind = .function) (hdd : dp + 4 < recursionLimit) (hu : un + 40 < cLine) (i n : Int) (t1 t2 : Tok) (h0 : 0 ≤ i) (hn : i ≤ n) (hn2 : n ≤ 100)
  (hret : ∀ t h' tk', Fr h₀ L h' m → News h₀ L h' news → Q (.int i t) {s with heap := h', toks := tk'}) :
  wpAny (model prog w) (ktrTop dp un gd cn cs L a ccd cl outer) (call (.ref 701) [.int i t1, .int n t2]) Q E s := by
  refine wpAny_call ?_
  cell_enter
  k_steps
  rw [show (if (0 : Int) > i then (0 : Int) else i) = i from if_neg (by omega), if_neg (show ¬ n < i by omega)]
  exact hret _ _ _ (by assumption) (by assumption)
end
end
section
section
variable {w : World} {dp un : Nat} {gd : Option (List Code)} {cn : Str} {cs : Scope} {a : Addr} {ccd : Value} {cl : List (Str × Addr)} {outer : List Env} {A₀ : Around} {base h₀ : Heap} {L : Addr} {m : Str → Option Value} {news : List (Addr × Obj)} {s : Shared} {p : Program} {loose : List Str} {mean : ExcName → Option Value} {mg mb : Str → Option Value} {Q E : Value → Shared → Prop}

theorem find_from_ok (B : Below A₀ base outer h₀) (F : Fr h₀ L s.heap m) (X : (hd.heap_1_39 w.params).In h₀) (N : News h₀ L s.heap news) (T : Top p loose mean mg mb h₀) (hk : cs.kind = .function) (hdd : dp + 6 < recursionLimit) (hu : un + 60 < cLine) (W l : List Nat) (st : Nat) (sI : Int) (t1 t2 t3 : Tok) (hsI : sI = (st : Nat)) (hl : l.length ≤ 6) (hW0 : 0 < W.length) (hW : W.length ≤ 7) (hst : st ≤ l.length)
  (hyes : ∀ (k : Nat) (kI : Int) t h' tk', st ≤ k → kI = (k : Nat) → k + W.length ≤ l.length → MatchAt false W l k → (∀ j, st ≤ j → j < k → ¬ MatchAt false W l j) → Fr h₀ L h' m → News h₀ L h' news → Q (.int kI t) {s with heap := h', toks := tk'})
  (hno : ∀ t h' tk', (∀ j, st ≤ j → j ≤ l.length → ¬ MatchAt false W l j) → Fr h₀ L h' m → News h₀ L h' news → Q (.int (-1) t) {s with heap := h', toks := tk'}) :
  wpAny (model prog w) (ktrTop dp un gd cn cs L a ccd cl outer) (call (.ref 715) [.str (S l) t1, .str (S W) t2, .int sI t3]) Q E s := by
  subst hsI
  have hSl := S_length l
  have hSW := S_length W
  have hTl : (S l).length ≤ 10 := by omega
  have hWl : (S W).length ≤ 10 := by omega
  refine wpAny_call ?_
  cell_enter
  (repeat ((fail_if_success (with_reducible show wpAny _ _ (pyIter _) _ _ _)); first | (k_unfold; (try dsimp only)) | (((with_reducible show wpAny _ _ (call (Value.ref 708) _) _ _ _); k_dflt (refine' stands_ok ?k1 ?k2 ?k3 ?k4 ?k5 ?kK ?kd ?ku _ _ _ _ _ _ _ ?kI ?ka ?kb ?kc ?_ ?_; (case k1 => k_asm); (case k2 => k_asm); (case k3 => k_asm); (case k4 => k_asm); (case k5 => k_asm); (case kK => first | exact rfl | assumption); (case kd => ktr_room); (case ku => ktr_units); (case kI => assumption); (case ka => assumption); (case kb => assumption); (case kc => omega); skip); (intro h9 tk9 hM9 F9 N9); (try dsimp only); (try k_fold); rotate_left; (intro h9 tk9 hM9 F9 N9); (try dsimp only); (try k_fold); rotate_left)) | (((with_reducible show wpAny _ _ (call (Value.ref 701) _) _ _ _); k_dflt (refine' clamp_ok ?k1 ?k2 ?k3 ?k4 ?k5 ?kK ?kd ?ku _ _ _ _ ?k0 ?kn ?kh ?_; (case k1 => k_asm); (case k2 => k_asm); (case k3 => k_asm); (case k4 => k_asm); (case k5 => k_asm); (case kK => first | exact rfl | assumption); (case kd => ktr_room); (case ku => ktr_units); (case k0 => omega); (case kn => omega); (case kh => omega); k_whole); (intro t9 h9 tk9 F9 N9); (try dsimp only); (try k_fold))) | ((with_reducible show wpAny _ _ (exec (Stmt.For (Expr.Name _ _) (Expr.Call _ _ _ _) _ _ _) _) _ _ _); (k_here; (rename Fr _ _ _ _ => lF'); (with_unfolding_all refine' For_turns lF' ?_; k_whole))) | ((with_reducible show wpAny _ _ (call (Value.builtin "len") _) _ _ _); (k_here; (with_reducible show wpAny _ _ (call (Value.builtin "len") [Value.ref _]) _ _ _); k_dflt (refine' kst_len ?k1 ?k2 ?k3 ?k4 ?_; (case k1 => k_asm); (case k2 => k_mem); (case k3 => first | assumption | exact rfl); (case k4 => ((try simp only [List.length_append, List.length_cons, List.length_nil]); omega)); k_whole))) | ((with_reducible show wpAny _ _ (subscriptTail (Expr.Name _ _) (Expr.Constant _ _ _) _ _) _ _ _); (k_here; (with_reducible show wpAny _ _ (subscriptTail _ _ (Value.ref _) (Value.int _ _)) _ _ _); (with_unfolding_all refine' item_litK ?k1 ?k2 ?k3 ?k4 ?_ ?k6; (case k1 => exact News.isList (by k_asm) (by k_mem)); (case k2 => decide); (case k3 => decide); (case k4 => rfl); (case k6 => with_unfolding_all rfl); k_whole))) | walk1 | (dsimp only; walk1)))
  rename IsRange _ _ _ _ _ _ _ _ => hR
  rename Fr _ _ _ _ => F1; rename News _ _ _ _ => N1
  refine' turns_range (n := l.length + 1 - W.length - st) [Str.ofString "at"] ?hh hR ?hs ?hn F1 N1 (fun k _ nw => nw = news ∧ ∀ j, st ≤ j → j < st + k → ¬ MatchAt false W l j) ?h0 ?_ ?_
  case hh => rfl
  case hs => exact small_one (by omega) (by omega) (by omega) (by omega)
  case hn => first | (rw [rangeSize_nat]; omega) | (simp [Builtin.Range.rangeSize]; omega)
  case h0 => exact ⟨rfl, fun j h1 h2 => by omega⟩
  · rintro k t u nw h tk own hk ⟨rfl, hno'⟩ F2 N2
    have hkv : (st : Int) + (k : Nat) * 1 = ((st + k : Nat) : Int) := by omega
    have hkl : st + k + W.length ≤ l.length := by omega
    (repeat' (first | (k_unfold; (try dsimp only)) | (((with_reducible show wpAny _ _ (call (Value.ref 708) _) _ _ _); k_dflt (refine' stands_ok ?k1 ?k2 ?k3 ?k4 ?k5 ?kK ?kd ?ku _ _ _ _ _ _ _ ?kI ?ka ?kb ?kc ?_ ?_; (case k1 => k_asm); (case k2 => k_asm); (case k3 => k_asm); (case k4 => k_asm); (case k5 => k_asm); (case kK => first | exact rfl | assumption); (case kd => ktr_room); (case ku => ktr_units); (case kI => assumption); (case ka => assumption); (case kb => assumption); (case kc => omega); skip); (intro h9 tk9 hM9 F9 N9); (try dsimp only); (try k_fold); rotate_left; (intro h9 tk9 hM9 F9 N9); (try dsimp only); (try k_fold); rotate_left)) | (((with_reducible show wpAny _ _ (call (Value.ref 701) _) _ _ _); k_dflt (refine' clamp_ok ?k1 ?k2 ?k3 ?k4 ?k5 ?kK ?kd ?ku _ _ _ _ ?k0 ?kn ?kh ?_; (case k1 => k_asm); (case k2 => k_asm); (case k3 => k_asm); (case k4 => k_asm); (case k5 => k_asm); (case kK => first | exact rfl | assumption); (case kd => ktr_room); (case ku => ktr_units); (case k0 => omega); (case kn => omega); (case kh => omega); k_whole); (intro t9 h9 tk9 F9 N9); (try dsimp only); (try k_fold))) | ((with_reducible show wpAny _ _ (exec (Stmt.For (Expr.Name _ _) (Expr.Call _ _ _ _) _ _ _) _) _ _ _); (k_here; (rename Fr _ _ _ _ => lF'); (with_unfolding_all refine' For_turns lF' ?_; k_whole))) | ((with_reducible show wpAny _ _ (call (Value.builtin "len") _) _ _ _); (k_here; (with_reducible show wpAny _ _ (call (Value.builtin "len") [Value.ref _]) _ _ _); k_dflt (refine' kst_len ?k1 ?k2 ?k3 ?k4 ?_; (case k1 => k_asm); (case k2 => k_mem); (case k3 => first | assumption | exact rfl); (case k4 => ((try simp only [List.length_append, List.length_cons, List.length_nil]); omega)); k_whole))) | ((with_reducible show wpAny _ _ (subscriptTail (Expr.Name _ _) (Expr.Constant _ _ _) _ _) _ _ _); (k_here; (with_reducible show wpAny _ _ (subscriptTail _ _ (Value.ref _) (Value.int _ _)) _ _ _); (with_unfolding_all refine' item_litK ?k1 ?k2 ?k3 ?k4 ?_ ?k6; (case k1 => exact News.isList (by k_asm) (by k_mem)); (case k2 => decide); (case k3 => decide); (case k4 => rfl); (case k6 => with_unfolding_all rfl); k_whole))) | (k_end; kc_close) | walk1 | (dsimp only; walk1) | (leave1; walk_say "STEP leave1"; (try dsimp only)) | fail "no step"))
    · exact hyes (st + k) _ _ _ _ (by omega) hkv hkl (by assumption) (fun j h1 h2 => hno' j h1 h2) (by assumption) (cb_drop (by assumption) (fun p hp => List.mem_append_right _ hp))
    · have hM := ‹¬ MatchAt _ W l (st + k)›
      rename News _ _ _ _ => N9; rename Fr _ _ _ _ => F9
      refine ⟨_, _, _, _, rfl, F9, N9, rfl, by ((intro y hy; have hc := hy; (simp only [List.contains_cons, List.contains_nil, Bool.or_false, Bool.or_eq_false_iff, beq_eq_false_iff_ne, ne_eq] at hc); (simp [upd, hy, hc]))), rfl, fun j h1 h2 => ?_⟩
      by_cases hj : j < st + k
      · exact hno' j h1 hj
      · obtain rfl : j = st + k := by omega
        exact hM
  · rintro u nw h tk ⟨rfl, hno'⟩ F2 N2
    (repeat' (first | (k_unfold; (try dsimp only)) | (((with_reducible show wpAny _ _ (call (Value.ref 708) _) _ _ _); k_dflt (refine' stands_ok ?k1 ?k2 ?k3 ?k4 ?k5 ?kK ?kd ?ku _ _ _ _ _ _ _ ?kI ?ka ?kb ?kc ?_ ?_; (case k1 => k_asm); (case k2 => k_asm); (case k3 => k_asm); (case k4 => k_asm); (case k5 => k_asm); (case kK => first | exact rfl | assumption); (case kd => ktr_room); (case ku => ktr_units); (case kI => assumption); (case ka => assumption); (case kb => assumption); (case kc => omega); skip); (intro h9 tk9 hM9 F9 N9); (try dsimp only); (try k_fold); rotate_left; (intro h9 tk9 hM9 F9 N9); (try dsimp only); (try k_fold); rotate_left)) | (((with_reducible show wpAny _ _ (call (Value.ref 701) _) _ _ _); k_dflt (refine' clamp_ok ?k1 ?k2 ?k3 ?k4 ?k5 ?kK ?kd ?ku _ _ _ _ ?k0 ?kn ?kh ?_; (case k1 => k_asm); (case k2 => k_asm); (case k3 => k_asm); (case k4 => k_asm); (case k5 => k_asm); (case kK => first | exact rfl | assumption); (case kd => ktr_room); (case ku => ktr_units); (case k0 => omega); (case kn => omega); (case kh => omega); k_whole); (intro t9 h9 tk9 F9 N9); (try dsimp only); (try k_fold))) | ((with_reducible show wpAny _ _ (exec (Stmt.For (Expr.Name _ _) (Expr.Call _ _ _ _) _ _ _) _) _ _ _); (k_here; (rename Fr _ _ _ _ => lF'); (with_unfolding_all refine' For_turns lF' ?_; k_whole))) | ((with_reducible show wpAny _ _ (call (Value.builtin "len") _) _ _ _); (k_here; (with_reducible show wpAny _ _ (call (Value.builtin "len") [Value.ref _]) _ _ _); k_dflt (refine' kst_len ?k1 ?k2 ?k3 ?k4 ?_; (case k1 => k_asm); (case k2 => k_mem); (case k3 => first | assumption | exact rfl); (case k4 => ((try simp only [List.length_append, List.length_cons, List.length_nil]); omega)); k_whole))) | ((with_reducible show wpAny _ _ (subscriptTail (Expr.Name _ _) (Expr.Constant _ _ _) _ _) _ _ _); (k_here; (with_reducible show wpAny _ _ (subscriptTail _ _ (Value.ref _) (Value.int _ _)) _ _ _); (with_unfolding_all refine' item_litK ?k1 ?k2 ?k3 ?k4 ?_ ?k6; (case k1 => exact News.isList (by k_asm) (by k_mem)); (case k2 => decide); (case k3 => decide); (case k4 => rfl); (case k6 => with_unfolding_all rfl); k_whole))) | (k_end; kc_close) | walk1 | (dsimp only; walk1) | (leave1; walk_say "STEP leave1"; (try dsimp only)) | fail "no step"))
    exact hno _ _ _ (fun j h1 h2 hM => by have := hM.fits hW0; exact hno' j h1 (by omega) hM) (by assumption) (by assumption)
end
end
section
section
variable {w : World} {dp un : Nat} {gd : Option (List Code)} {cn : Str} {cs : Scope} {a : Addr} {ccd : Value} {cl : List (Str × Addr)} {outer : List Env} {A₀ : Around} {base h₀ : Heap} {L : Addr} {m : Str → Option Value} {news : List (Addr × Obj)} {s : Shared} {p : Program} {loose : List Str} {mean : ExcName → Option Value} {mg mb : Str → Option Value} {Q E : Value → Shared → Prop}

def cuts (n : Nat) (l : List Nat) : Nat → List Nat → List (List Nat)
  | _, [] => []
  | b, k :: ms => (l.drop b).take (k - b) :: cuts n l (k + n) ms
def lastEnd (n : Nat) : Nat → List Nat → Nat
  | b, [] => b
  | _, k :: ms => lastEnd n (k + n) ms
def parts (n : Nat) (l : List Nat) (ms : List Nat) : List (List Nat) := cuts n l 0 ms ++ [l.drop (lastEnd n 0 ms)]
theorem cuts_snoc (n : Nat) (l : List Nat) : ∀ (b : Nat) (ms : List Nat) (k : Nat), cuts n l b (ms ++ [k]) = cuts n l b ms ++ [(l.drop (lastEnd n b ms)).take (k - lastEnd n b ms)]
  | b, [], k => by simp [cuts, lastEnd]
  | b, j :: ms, k => by simp [cuts, lastEnd, cuts_snoc n l (j + n) ms k]
theorem cuts_length (n : Nat) (l : List Nat) : ∀ (b : Nat) (ms : List Nat), (cuts n l b ms).length = ms.length
  | b, [] => rfl
  | b, j :: ms => by simp [cuts, cuts_length n l (j + n) ms]
theorem lastEnd_snoc (n : Nat) : ∀ (b : Nat) (ms : List Nat) (k : Nat), lastEnd n b (ms ++ [k]) = k + n
  | b, [], k => by simp [lastEnd]
  | b, j :: ms, k => by simp [lastEnd, lastEnd_snoc n (j + n) ms k]
theorem Acc.last {ic : Bool} {W l : List Nat} {ms : List Nat} {st : Nat} (h : Acc ic W l ms st) : st = lastEnd W.length 0 ms := by
  induction h with
  | nil => rfl
  | snoc _ _ _ _ _ _ => exact (lastEnd_snoc _ _ _ _).symm
abbrev StrD (ps : List (List Nat)) : List PyData := ps.map fun p => PyData.str (S p)
theorem carr_snoc {vs : List Value} {ps : List (List Nat)} {q : List Nat} {x : Str} {t : Tok} (h : CarriedAll vs (StrD ps)) (e : x = S q) : CarriedAll (vs ++ [.str x t]) (StrD (ps ++ [q])) := by
  subst e
  unfold StrD
  rw [List.map_append]
  exact h.appendLM (.cons (.str _ t) .nil)
theorem slice_tail (l : List Nat) (a : Nat) (ha : a ≤ l.length) : Txt.slice (S l) (some (a : Int)) none = S (l.drop a) := by
  have e : Txt.slice (S l) (some (a : Int)) none = Txt.slice (S l) (some (a : Int)) (some (l.length : Int)) := by
    unfold Txt.slice
    rw [S_length]
    have h : Builtin.Str.strSliceIndices (some (a : Int)) none 1 l.length = Builtin.Str.strSliceIndices (some (a : Int)) (some (l.length : Int)) 1 l.length := by
      have h1 : ¬ ((a : Int) < 0) := by omega
      have h2 : ¬ ((l.length : Int) < 0) := by omega
      simp [Builtin.Str.strSliceIndices, h2]
    rw [h]
  rw [e, slice_S l a _ ha, List.take_of_length_le (by simp)]
theorem S_empty (l : List Nat) : (S l == Str.ofString "") = decide (l = []) := by
  rw [show Str.ofString "" = S [] by decide +kernel, S_eq]

theorem split_text_ok (B : Below A₀ base outer h₀) (F : Fr h₀ L s.heap m) (X : (hd.heap_1_39 w.params).In h₀) (N : News h₀ L s.heap news) (T : Top p loose mean mg mb h₀) (hk : cs.kind = .function) (hdd : dp + 8 < recursionLimit) (hu : un + 80 < cLine) (W l : List Nat) (t1 t2 t3 : Tok) (hl : l.length ≤ 6) (hW0 : 0 < W.length) (hW : W.length ≤ 7)
  (hret : ∀ lf vs ms kk h' tk', Done false W l ms → CarriedAll vs (StrD (parts W.length l ms)) → (∀ p ∈ news, p.1 < lf) → Fr h₀ L h' m → News h₀ L h' ((lf, listOf vs.toArray kk) :: news) → Q (.ref lf) {s with heap := h', toks := tk'}) :
  wpAny (model prog w) (ktrTop dp un gd cn cs L a ccd cl outer) (call (.ref 722) [.str (S l) t1, .str (S W) t2, .int 99 t3]) Q E s := by
  have hSl := S_length l
  have hSW := S_length W
  have hTl : (S l).length ≤ 10 := by omega
  have hWl : (S W).length ≤ 10 := by omega
  have hWe : (S W == Str.ofString "") = false := by rw [S_empty, decide_eq_false_iff_not]; rintro rfl; simp at hW0
  by_cases h0 : l = []
  · have hle : (S l == Str.ofString "") = true := by rw [S_empty, decide_eq_true_iff]; exact h0
    refine wpAny_call ?_
    cell_enter
    (repeat' (first | (k_unfold; (try dsimp only)) | (((with_reducible show wpAny _ _ (call (Value.ref 708) _) _ _ _); k_dflt (refine' stands_ok ?k1 ?k2 ?k3 ?k4 ?k5 ?kK ?kd ?ku _ _ _ _ _ _ _ ?kI ?ka ?kb ?kc ?_ ?_; (case k1 => k_asm); (case k2 => k_asm); (case k3 => k_asm); (case k4 => k_asm); (case k5 => k_asm); (case kK => first | exact rfl | assumption); (case kd => ktr_room); (case ku => ktr_units); (case kI => assumption); (case ka => assumption); (case kb => assumption); (case kc => omega); skip); (intro h9 tk9 hM9 F9 N9); (try dsimp only); (try k_fold); rotate_left; (intro h9 tk9 hM9 F9 N9); (try dsimp only); (try k_fold); rotate_left)) | ((with_reducible show wpAny _ _ (call (Value.builtin "len") _) _ _ _); (k_here; (with_reducible show wpAny _ _ (call (Value.builtin "len") [Value.ref _]) _ _ _); k_dflt (refine' kst_len ?k1 ?k2 ?k3 ?k4 ?_; (case k1 => k_asm); (case k2 => k_mem); (case k3 => first | assumption | exact rfl); (case k4 => ((try simp only [List.length_append, List.length_cons, List.length_nil]); omega)); k_whole))) | ((with_reducible show wpAny _ _ (subscriptTail (Expr.Name _ _) (Expr.Constant _ _ _) _ _) _ _ _); (k_here; (with_reducible show wpAny _ _ (subscriptTail _ _ (Value.ref _) (Value.int _ _)) _ _ _); (with_unfolding_all refine' item_litK ?k1 ?k2 ?k3 ?k4 ?_ ?k6; (case k1 => exact News.isList (by k_asm) (by k_mem)); (case k2 => decide); (case k3 => decide); (case k4 => rfl); (case k6 => with_unfolding_all rfl); k_whole))) | (k_end; kc_close) | walk1 | (dsimp only; walk1) | (leave1; walk_say "STEP leave1"; (try dsimp only)) | fail "no step"))
    have l1 := ‹∀ p ∈ news, p.1 < _›
    subst h0
    refine hret _ _ [] _ _ _ ⟨0, .nil, fun j h1 h2 hM => ?_⟩ (.cons (.str _ _) .nil) l1 (by assumption) (by assumption)
    have := hM.fits hW0
    simp only [List.length_nil] at this
    omega
  · have hle : (S l == Str.ofString "") = false := by rw [S_empty, decide_eq_false_iff_not]; exact h0
    refine wpAny_call ?_
    cell_enter
    (repeat ((fail_if_success (with_reducible show wpAny _ _ (exec (Stmt.While _ _ _ _) _) _ _ _)); first | (k_unfold; (try dsimp only)) | (((with_reducible show wpAny _ _ (call (Value.ref 708) _) _ _ _); k_dflt (refine' stands_ok ?k1 ?k2 ?k3 ?k4 ?k5 ?kK ?kd ?ku _ _ _ _ _ _ _ ?kI ?ka ?kb ?kc ?_ ?_; (case k1 => k_asm); (case k2 => k_asm); (case k3 => k_asm); (case k4 => k_asm); (case k5 => k_asm); (case kK => first | exact rfl | assumption); (case kd => ktr_room); (case ku => ktr_units); (case kI => assumption); (case ka => assumption); (case kb => assumption); (case kc => omega); skip); (intro h9 tk9 hM9 F9 N9); (try dsimp only); (try k_fold); rotate_left; (intro h9 tk9 hM9 F9 N9); (try dsimp only); (try k_fold); rotate_left)) | ((with_reducible show wpAny _ _ (call (Value.builtin "len") _) _ _ _); (k_here; (with_reducible show wpAny _ _ (call (Value.builtin "len") [Value.ref _]) _ _ _); k_dflt (refine' kst_len ?k1 ?k2 ?k3 ?k4 ?_; (case k1 => k_asm); (case k2 => k_mem); (case k3 => first | assumption | exact rfl); (case k4 => ((try simp only [List.length_append, List.length_cons, List.length_nil]); omega)); k_whole))) | ((with_reducible show wpAny _ _ (subscriptTail (Expr.Name _ _) (Expr.Constant _ _ _) _ _) _ _ _); (k_here; (with_reducible show wpAny _ _ (subscriptTail _ _ (Value.ref _) (Value.int _ _)) _ _ _); (with_unfolding_all refine' item_litK ?k1 ?k2 ?k3 ?k4 ?_ ?k6; (case k1 => exact News.isList (by k_asm) (by k_mem)); (case k2 => decide); (case k3 => decide); (case k4 => rfl); (case k6 => with_unfolding_all rfl); k_whole))) | walk1 | (dsimp only; walk1)))
    have lt1 := ‹∀ p ∈ news, p.1 < _›
    rename _ ∧ AllLt _ _ => l1
    rename Fr _ _ _ _ => F1; rename News _ _ _ _ => N1
    obtain ⟨tp, rfl, _⟩ := nm_lt l1.1
    obtain ⟨lf, rfl, _⟩ := nm2 l1.1
    have N1' := cb_drop N1 (fun p hp => List.mem_cons_of_mem _ hp)
    clear N1
    refine while_inv (n₀ := l.length) [Str.ofString "at", Str.ofString "begin", Str.ofString "end"] (fun nn u nw => ∃ (vs : List Value) (ms : List Nat) (st i kk : Nat) (bI iI : Int) (ta tb : Tok), nw = (lf, listOf vs.toArray kk) :: news ∧ Acc false W l ms st ∧ CarriedAll vs (StrD (cuts W.length l 0 ms)) ∧ nn + i = l.length ∧ st ≤ i ∧ i ≤ l.length ∧ (∀ j, st ≤ j → j < i → ¬ MatchAt false W l j) ∧ bI = (st : Nat) ∧ iI = (i : Nat) ∧ u (Str.ofString "begin") = some (.int bI tb) ∧ u (Str.ofString "at") = some (.int iI ta)) F1 N1' ⟨[], [], 0, 0, 0, 0, 0, _, _, rfl, .nil, .nil, rfl, Nat.le_refl _, Nat.zero_le _, fun j h1 h2 => by omega, rfl, rfl, rfl, rfl⟩ ?_
    rintro nn u nw h tk ⟨vs, ms, st, i, kk, bI, iI, ta, tb, rfl, hA, hC, hnn, hsi, hi, hno, hbI, hiI, hu1, hu2⟩ F2 N2
    have F3 := fr_put (x := Str.ofString "begin") (v := .int bI tb) (fr_put (x := Str.ofString "at") (v := .int iI ta) F2 (by simp [upd, hu2])) (by show ite _ _ _ = _; rw [if_neg (by decide +kernel)]; simp [upd, hu1])
    clear F2
    have hvs : vs.length ≤ 10 := by
      have h1 := hA.bound hW0
      have h2 := hC.length_eq
      simp only [StrD, List.length_map, cuts_length] at h2
      omega
    (repeat' (first | (k_unfold; (try dsimp only)) | (((with_reducible show wpAny _ _ (call (Value.ref 708) _) _ _ _); k_dflt (refine' stands_ok ?k1 ?k2 ?k3 ?k4 ?k5 ?kK ?kd ?ku _ _ _ _ _ _ _ ?kI ?ka ?kb ?kc ?_ ?_; (case k1 => k_asm); (case k2 => k_asm); (case k3 => k_asm); (case k4 => k_asm); (case k5 => k_asm); (case kK => first | exact rfl | assumption); (case kd => ktr_room); (case ku => ktr_units); (case kI => assumption); (case ka => assumption); (case kb => assumption); (case kc => omega); skip); (intro h9 tk9 hM9 F9 N9); (try dsimp only); (try k_fold); rotate_left; (intro h9 tk9 hM9 F9 N9); (try dsimp only); (try k_fold); rotate_left)) | ((with_reducible show wpAny _ _ (call (Value.builtin "len") _) _ _ _); (k_here; (with_reducible show wpAny _ _ (call (Value.builtin "len") [Value.ref _]) _ _ _); k_dflt (refine' kst_len ?k1 ?k2 ?k3 ?k4 ?_; (case k1 => k_asm); (case k2 => k_mem); (case k3 => first | assumption | exact rfl); (case k4 => ((try simp only [List.length_append, List.length_cons, List.length_nil]); omega)); k_whole))) | ((with_reducible show wpAny _ _ (subscriptTail (Expr.Name _ _) (Expr.Constant _ _ _) _ _) _ _ _); (k_here; (with_reducible show wpAny _ _ (subscriptTail _ _ (Value.ref _) (Value.int _ _)) _ _ _); (with_unfolding_all refine' item_litK ?k1 ?k2 ?k3 ?k4 ?_ ?k6; (case k1 => exact News.isList (by k_asm) (by k_mem)); (case k2 => decide); (case k3 => decide); (case k4 => rfl); (case k6 => with_unfolding_all rfl); k_whole))) | (k_end; kc_close) | walk1 | (dsimp only; walk1) | (leave1; walk_say "STEP leave1"; (try dsimp only)) | fail "no step"))
    · exfalso
      omega
    · exfalso
      rename (_ : Int) = 99 => h9
      simp only [List.length_append, List.length_cons, List.length_nil] at h9
      omega
    · have hM := ‹MatchAt false W l i›
      have hfit := hM.fits hW0
      have hcar : ∀ t, CarriedAll (vs ++ [.str (Txt.slice (S l) (some bI) (some iI)) t]) (StrD (cuts W.length l 0 (ms ++ [i]))) := fun t => by
        rw [cuts_snoc]
        exact carr_snoc hC (by rw [hbI, hiI, slice_S l st i hsi, ← hA.last])
      rename News _ _ _ _ => N9; rename Fr _ _ _ _ => F9
      refine ⟨_, _, _, _, l.length - (i + W.length), rfl, F9, N9, by omega, by ((intro y hy; have hc := hy; (simp only [List.contains_cons, List.contains_nil, Bool.or_false, Bool.or_eq_false_iff, beq_eq_false_iff_ne, ne_eq] at hc); (simp [upd, hy, hc]))), _, ms ++ [i], i + W.length, i + W.length, _, iI + ((S W).length : Nat), iI + ((S W).length : Nat), _, _, rfl, .snoc hA hsi hi hM hno, hcar _, Nat.sub_add_cancel hfit, Nat.le_refl _, hfit, fun j h1 h2 => by omega, by omega, by omega, by first | rfl | (simp; done) | (show ite _ _ _ = _; rw [if_neg (by decide +kernel)]; simp; done) | (show ite _ _ _ = _; rw [if_neg (by decide +kernel)]; show ite _ _ _ = _; rw [if_neg (by decide +kernel)]; simp; done), by first | rfl | (simp; done) | (show ite _ _ _ = _; rw [if_neg (by decide +kernel)]; simp; done) | (show ite _ _ _ = _; rw [if_neg (by decide +kernel)]; show ite _ _ _ = _; rw [if_neg (by decide +kernel)]; simp; done)⟩
    · have hM := ‹¬ MatchAt false W l i›
      rename News _ _ _ _ => N9; rename Fr _ _ _ _ => F9
      refine ⟨_, _, _, _, l.length - (i + 1), rfl, F9, N9, by omega, by ((intro y hy; have hc := hy; (simp only [List.contains_cons, List.contains_nil, Bool.or_false, Bool.or_eq_false_iff, beq_eq_false_iff_ne, ne_eq] at hc); (simp [upd, hy, hc]))), vs, ms, st, i + 1, kk, bI, iI + 1, _, _, rfl, hA, hC, by omega, by omega, by omega, fun j h1 h2 => ?_, hbI, by omega, by first | rfl | (simp; done) | (show ite _ _ _ = _; rw [if_neg (by decide +kernel)]; simp; done) | (show ite _ _ _ = _; rw [if_neg (by decide +kernel)]; show ite _ _ _ = _; rw [if_neg (by decide +kernel)]; simp; done), by first | rfl | (simp; done) | (show ite _ _ _ = _; rw [if_neg (by decide +kernel)]; simp; done) | (show ite _ _ _ = _; rw [if_neg (by decide +kernel)]; show ite _ _ _ = _; rw [if_neg (by decide +kernel)]; simp; done)⟩
      by_cases hj : j < i
      · exact hno j h1 hj
      · obtain rfl : j = i := by omega
        exact hM
    · rename News _ _ _ _ => N9
      rw [List.push_toArray] at N9
      refine hret lf _ ms _ _ _ ⟨st, hA, fun j h1 h2 hM => ?_⟩ (carr_snoc hC (by rw [hbI, slice_tail l st (by omega), ← hA.last])) lt1 (by assumption) N9
      have := hM.fits hW0
      exact hno j h1 (by omega) hM
end
end
section
section
variable {w : World} {dp un : Nat} {gd : Option (List Code)} {cn : Str} {cs : Scope} {a : Addr} {ccd : Value} {cl : List (Str × Addr)} {outer : List Env} {A₀ : Around} {base h₀ : Heap} {L : Addr} {m : Str → Option Value} {news : List (Addr × Obj)} {s : Shared} {p : Program} {loose : List Str} {mean : ExcName → Option Value} {mg mb : Str → Option Value} {Q E : Value → Shared → Prop}

def ins (n : Nat) (l pc : List Nat) : Nat → List Nat → List (List Nat)
  | _, [] => []
  | b, k :: ms => (l.drop b).take (k - b) :: pc :: ins n l pc (k + n) ms
theorem ins_snoc (n : Nat) (l pc : List Nat) : ∀ (b : Nat) (ms : List Nat) (k : Nat), ins n l pc b (ms ++ [k]) = (ins n l pc b ms ++ [(l.drop (lastEnd n b ms)).take (k - lastEnd n b ms)]) ++ [pc]
  | b, [], k => by simp [ins, lastEnd]
  | b, j :: ms, k => by simp [ins, lastEnd, ins_snoc n l pc (j + n) ms k]
theorem ins_length (n : Nat) (l pc : List Nat) : ∀ (b : Nat) (ms : List Nat), (ins n l pc b ms).length = 2 * ms.length
  | b, [] => rfl
  | b, j :: ms => by simp [ins, ins_length n l pc (j + n) ms]; omega
theorem ins_small (n : Nat) (l pc : List Nat) (B : Nat) (hl : l.length ≤ B) (hp : pc.length ≤ B) : ∀ (b : Nat) (ms : List Nat), ∀ a ∈ ins n l pc b ms, a.length ≤ B
  | b, [], a, h => by simp [ins] at h
  | b, j :: ms, a, h => by
    simp only [ins, List.mem_cons] at h
    rcases h with h | h | h
    · rw [h]; simp only [List.length_take, List.length_drop]; omega
    · rw [h]; exact hp
    · exact ins_small n l pc B hl hp (j + n) ms a h
theorem news_back {h : Heap} {own rest : List (Addr × Obj)} {q : Addr × Obj} (N : News h₀ L h (q :: (rest ++ own))) : News h₀ L h (own ++ q :: rest) := fun p hp => N p (by
  simp only [List.mem_cons, List.mem_append] at hp ⊢
  rcases hp with h | h | h
  · exact .inr (.inr h)
  · exact .inl h
  · exact .inr (.inl h))
def putS (n : Nat) (l pc ms : List Nat) : Str := Txt.join (Str.ofString "") ((ins n l pc 0 ms ++ [l.drop (lastEnd n 0 ms)]).map S)
theorem Acc.places {ic : Bool} {W l : List Nat} {ms : List Nat} {st : Nat} (h : Acc ic W l ms st) (hW : 0 < W.length) : ∀ (i k : Nat), ms[i]? = some k → lastEnd W.length 0 (ms.take i) ≤ k ∧ k + W.length ≤ l.length := by
  induction h with
  | nil => intro i k e; simp at e
  | @snoc ms st k hA h1 h2 hM h4 ih =>
    intro i k' e
    by_cases hi : i < ms.length
    · rw [List.getElem?_append_left hi] at e
      rw [List.take_append_of_le_length (Nat.le_of_lt hi)]
      exact ih i k' e
    · have hl := (List.getElem?_eq_some_iff.mp e).1
      have hi' : i = ms.length := by simp at hl; omega
      subst hi'
      rw [List.getElem?_append_right (Nat.le_refl _), Nat.sub_self] at e
      obtain rfl : k = k' := by simpa using e
      rw [List.take_left, ← hA.last]
      exact ⟨h1, hM.fits hW⟩
theorem lastEnd_le (n : Nat) (l ms : List Nat) (h : ∀ (i k : Nat), ms[i]? = some k → lastEnd n 0 (ms.take i) ≤ k ∧ k + n ≤ l.length) : ∀ i, i ≤ ms.length → lastEnd n 0 (ms.take i) ≤ l.length
  | 0, _ => by simp [lastEnd]
  | i + 1, hi => by
    have e : ms[i]? = some ms[i] := by simp
    rw [List.take_add_one, e]
    simp only [Option.toList]
    rw [lastEnd_snoc]
    exact (h i _ e).2

theorem put_pieces_ok (B : Below A₀ base outer h₀) (F : Fr h₀ L s.heap m) (X : (hd.heap_1_39 w.params).In h₀) (N : News h₀ L s.heap news) (T : Top p loose mean mg mb h₀) (hk : cs.kind = .function) (hdd : dp + 4 < recursionLimit) (hu : un + 40 < cLine) (n : Nat) (l pc ms : List Nat) (t1 : Tok) (lf lp : Addr) (vs ps : List Value) (kf kp : Nat) (hl : l.length ≤ 6) (hpc : pc.length ≤ 6) (hn : ms.length ≤ 6) (hms : ∀ (i k : Nat), ms[i]? = some k → lastEnd n 0 (ms.take i) ≤ k ∧ k + n ≤ l.length) (hlf : (lf, listOf vs.toArray kf) ∈ news) (hM : MTups news vs ms n) (hlp : (lp, listOf ps.toArray kp) ∈ news) (hps : ∀ i, i < ms.length → ∃ t, ps[i]? = some (.str (S pc) t)) (hpl : ps.length ≤ 10)
  (hret : ∀ t h' tk', Fr h₀ L h' m → News h₀ L h' news → Q (.str (putS n l pc ms) t) {s with heap := h', toks := tk'}) :
  wpAny (model prog w) (ktrTop dp un gd cn cs L a ccd cl outer) (call (.ref 694) [.str (S l) t1, .ref lf, .ref lp]) Q E s := by
  have hSl := S_length l
  have hTl : (S l).length ≤ 10 := by omega
  refine wpAny_call ?_
  cell_enter
  (repeat ((fail_if_success (with_reducible show wpAny _ _ (call (Value.type _) _) _ _ _)); first | (k_unfold; (try dsimp only)) | ((with_reducible show wpAny _ _ (exec (Stmt.For (Expr.Tuple _ _ _) (Expr.Call _ _ _ _) _ _ _) _) _ _ _); (k_here; (rename Fr _ _ _ _ => lF'); (with_unfolding_all refine' For_turns lF' ?_; k_whole))) | ((with_reducible show wpAny _ _ (call (Value.builtin "len") _) _ _ _); (k_here; (with_reducible show wpAny _ _ (call (Value.builtin "len") [Value.ref _]) _ _ _); k_dflt (refine' kst_len ?k1 ?k2 ?k3 ?k4 ?_; (case k1 => k_asm); (case k2 => k_mem); (case k3 => first | assumption | exact rfl); (case k4 => ((try simp only [List.length_append, List.length_cons, List.length_nil]); omega)); k_whole))) | ((with_reducible show wpAny _ _ (subscriptTail (Expr.Name _ _) (Expr.Name _ _) _ _) _ _ _); (k_here; (with_reducible show wpAny _ _ (subscriptTail _ _ (Value.ref _) (Value.int _ _)) _ _ _); (with_unfolding_all refine' item_litK ?k1 ?k2 ?k3 ?k4 ?_ ?k6; (case k1 => exact News.isList (by k_asm) (by k_mem)); (case k2 => omega); (case k3 => omega); (case k4 => assumption); (case k6 => with_unfolding_all rfl); k_whole))) | ((with_reducible show wpAny _ _ (subscriptTail (Expr.Name _ _) (Expr.Constant _ _ _) _ _) _ _ _); (k_here; (with_reducible show wpAny _ _ (subscriptTail _ _ (Value.ref _) (Value.int _ _)) _ _ _); (with_unfolding_all refine' item_litK ?k1 ?k2 ?k3 ?k4 ?_ ?k6; (case k1 => exact News.isList (by k_asm) (by k_mem)); (case k2 => decide); (case k3 => decide); (case k4 => rfl); (case k6 => with_unfolding_all rfl); k_whole))) | walk1 | (dsimp only; walk1)))
  have lt1 := ‹∀ p ∈ news, p.1 < _›
  rename _ ∧ AllLt _ _ => l1
  rename Fr _ _ _ _ => F1; rename News _ _ _ _ => N1
  obtain ⟨tp, rfl, _⟩ := nm_lt l1.1
  obtain ⟨fl, rfl, _⟩ := nm2 l1.1
  have N1' := cb_drop N1 (fun p hp => List.mem_cons_of_mem _ hp)
  clear N1
  refine' turns_enumG (vs := vs) (lo := listOf vs.toArray kf) [Str.ofString "at", Str.ofString "met", Str.ofString "begin"] ?hh F1 N1' (List.mem_cons_of_mem _ hlf) ?hc ?hd (fun i u nw => ∃ (fs : List Value) (kk : Nat) (bI : Int) (tb : Tok), nw = (fl, listOf fs.toArray kk) :: news ∧ CarriedAll fs (StrD (ins n l pc 0 (ms.take i))) ∧ bI = (lastEnd n 0 (ms.take i) : Nat) ∧ u (Str.ofString "begin") = some (.int bI tb)) ?h0 ?_ ?_
  case hh => rfl
  case hc => rfl
  case hd => rfl
  case h0 => exact ⟨[], 0, 0, _, rfl, .nil, rfl, rfl⟩
  · rintro i x T t u nw h tk own I hx hT ⟨fs, kk, bI, tb, rfl, hC, hbI, hu1⟩ hI hnI hown F2 N2
    have hi : i < ms.length := by rw [← hM.1]; exact (List.getElem?_eq_some_iff.mp hx).1
    have hmi : ms[i]? = some ms[i] := by simp [hi]
    obtain ⟨R, hR, g, tk1, tk2, kkg, _, hRn, _⟩ := hM.2 i ms[i] hmi
    obtain rfl : x = .ref R := by rw [hR] at hx; exact (Option.some.inj hx).symm
    obtain ⟨hk1, hk2⟩ := hms i ms[i] hmi
    obtain ⟨tpc, hpi⟩ := hps i hi
    have hpi' : ps[((i : Nat) : Int).toNat]? = some (.str (S pc) tpc) := by simpa using hpi
    have hfs : fs.length ≤ 12 := by
      have h2 := hC.length_eq
      simp only [StrD, List.length_map, ins_length, List.length_take] at h2
      omega
    have F3 := fr_put (x := Str.ofString "begin") (v := .int bI tb) F2 (by simp [upd, hu1])
    clear F2
    have hfI : fl < I := hI (fl, _) List.mem_cons_self
    have hlff : lf ≠ fl := Nat.ne_of_lt (lt1 _ hlf)
    have hro : ∀ p ∈ news ++ own, p.1 ≠ fl := List.forall_mem_append.mpr ⟨fun p hp => Nat.ne_of_lt (lt1 p hp), fun p hp => by
      rcases hown p hp with e | e | e <;> rw [e]
      · exact Nat.ne_of_gt (Nat.lt_succ_of_lt hfI)
      · exact Nat.ne_of_gt hfI
      · exact hlff⟩
    have N3 := news_own N2
    clear N2
    (repeat' (first | (k_unfold; (try dsimp only)) | ((with_reducible show wpAny _ _ (exec (Stmt.For (Expr.Tuple _ _ _) (Expr.Call _ _ _ _) _ _ _) _) _ _ _); (k_here; (rename Fr _ _ _ _ => lF'); (with_unfolding_all refine' For_turns lF' ?_; k_whole))) | ((with_reducible show wpAny _ _ (call (Value.builtin "len") _) _ _ _); (k_here; (with_reducible show wpAny _ _ (call (Value.builtin "len") [Value.ref _]) _ _ _); k_dflt (refine' kst_len ?k1 ?k2 ?k3 ?k4 ?_; (case k1 => k_asm); (case k2 => k_mem); (case k3 => first | assumption | exact rfl); (case k4 => ((try simp only [List.length_append, List.length_cons, List.length_nil]); omega)); k_whole))) | ((with_reducible show wpAny _ _ (subscriptTail (Expr.Name _ _) (Expr.Name _ _) _ _) _ _ _); (k_here; (with_reducible show wpAny _ _ (subscriptTail _ _ (Value.ref _) (Value.int _ _)) _ _ _); (with_unfolding_all refine' item_litK ?k1 ?k2 ?k3 ?k4 ?_ ?k6; (case k1 => exact News.isList (by k_asm) (by k_mem)); (case k2 => omega); (case k3 => omega); (case k4 => assumption); (case k6 => with_unfolding_all rfl); k_whole))) | ((with_reducible show wpAny _ _ (subscriptTail (Expr.Name _ _) (Expr.Constant _ _ _) _ _) _ _ _); (k_here; (with_reducible show wpAny _ _ (subscriptTail _ _ (Value.ref _) (Value.int _ _)) _ _ _); (with_unfolding_all refine' item_litK ?k1 ?k2 ?k3 ?k4 ?_ ?k6; (case k1 => exact News.isList (by k_asm) (by k_mem)); (case k2 => decide); (case k3 => decide); (case k4 => rfl); (case k6 => with_unfolding_all rfl); k_whole))) | (k_end; kc_close) | walk1 | (dsimp only; walk1) | (leave1; walk_say "STEP leave1"; (try dsimp only)) | fail "no step"))
    have hcar : ∀ t t', CarriedAll ((fs ++ [.str (Txt.slice (S l) (some bI) (some (ms[i] : Nat))) t]) ++ [.str (S pc) t']) (StrD (ins n l pc 0 (ms.take (i + 1)))) := fun t t' => by
      rw [List.take_add_one, hmi]
      simp only [Option.toList]
      rw [ins_snoc]
      exact carr_snoc (carr_snoc hC (by rw [hbI, slice_S l _ _ hk1])) rfl
    rename News _ _ _ _ => N9; rename Fr _ _ _ _ => F9
    simp only [List.push_toArray] at N9
    refine ⟨_, _, _, _, rfl, F9, news_back N9, ?_, by ((intro y hy; have hc := hy; (simp only [List.contains_cons, List.contains_nil, Bool.or_false, Bool.or_eq_false_iff, beq_eq_false_iff_ne, ne_eq] at hc); (simp [upd, hy, hc]))), _, _, _, _, rfl, hcar _ _, ?_, by first | rfl | (simp; done) | (show ite _ _ _ = _; rw [if_neg (by decide +kernel)]; simp; done) | (show ite _ _ _ = _; rw [if_neg (by decide +kernel)]; show ite _ _ _ = _; rw [if_neg (by decide +kernel)]; simp; done)⟩
    · exact List.forall_mem_cons.mpr ⟨⟨Nat.ne_of_lt (Nat.lt_succ_of_lt hfI), Nat.ne_of_lt hfI⟩, fun p hp => by have := hI p (List.mem_cons_of_mem _ hp); exact ⟨Nat.ne_of_lt (Nat.lt_succ_of_lt this), Nat.ne_of_lt this⟩⟩
    · rw [List.take_add_one, hmi]
      simp only [Option.toList]
      rw [lastEnd_snoc]
      omega
  · rintro u nw h tk ⟨fs, kk, bI, tb, rfl, hC, hbI, hu1⟩ F2 N2
    rw [hM.1, List.take_length] at hC hbI
    have hle := lastEnd_le n l ms hms ms.length (Nat.le_refl _)
    rw [List.take_length] at hle
    have hfs : fs.length ≤ 12 := by
      have h2 := hC.length_eq
      simp only [StrD, List.length_map, ins_length] at h2
      omega
    have F3 := fr_put (x := Str.ofString "begin") (v := .int bI tb) F2 (by simp [upd, hu1])
    clear F2
    (repeat ((fail_if_success (with_reducible show wpAny _ _ (call (Value.builtin "str.join") _) _ _ _)); first | (k_unfold; (try dsimp only)) | ((with_reducible show wpAny _ _ (exec (Stmt.For (Expr.Tuple _ _ _) (Expr.Call _ _ _ _) _ _ _) _) _ _ _); (k_here; (rename Fr _ _ _ _ => lF'); (with_unfolding_all refine' For_turns lF' ?_; k_whole))) | ((with_reducible show wpAny _ _ (call (Value.builtin "len") _) _ _ _); (k_here; (with_reducible show wpAny _ _ (call (Value.builtin "len") [Value.ref _]) _ _ _); k_dflt (refine' kst_len ?k1 ?k2 ?k3 ?k4 ?_; (case k1 => k_asm); (case k2 => k_mem); (case k3 => first | assumption | exact rfl); (case k4 => ((try simp only [List.length_append, List.length_cons, List.length_nil]); omega)); k_whole))) | ((with_reducible show wpAny _ _ (subscriptTail (Expr.Name _ _) (Expr.Name _ _) _ _) _ _ _); (k_here; (with_reducible show wpAny _ _ (subscriptTail _ _ (Value.ref _) (Value.int _ _)) _ _ _); (with_unfolding_all refine' item_litK ?k1 ?k2 ?k3 ?k4 ?_ ?k6; (case k1 => exact News.isList (by k_asm) (by k_mem)); (case k2 => omega); (case k3 => omega); (case k4 => assumption); (case k6 => with_unfolding_all rfl); k_whole))) | ((with_reducible show wpAny _ _ (subscriptTail (Expr.Name _ _) (Expr.Constant _ _ _) _ _) _ _ _); (k_here; (with_reducible show wpAny _ _ (subscriptTail _ _ (Value.ref _) (Value.int _ _)) _ _ _); (with_unfolding_all refine' item_litK ?k1 ?k2 ?k3 ?k4 ?_ ?k6; (case k1 => exact News.isList (by k_asm) (by k_mem)); (case k2 => decide); (case k3 => decide); (case k4 => rfl); (case k6 => with_unfolding_all rfl); k_whole))) | walk1 | (dsimp only; walk1)))
    rename News _ _ _ _ => N9
    rw [List.push_toArray] at N9
    refine KT.join_B (l := ins n l pc 0 ms ++ [l.drop (lastEnd n 0 ms)]) (g := S) 6 (News.isList N9 List.mem_cons_self) (carr_snoc hC (by rw [hbI, slice_tail l _ hle])) ?_ ?_ (by decide +kernel) ?_
    · intro x hx
      rw [S_length]
      rcases List.mem_append.mp hx with hx | hx
      · exact ins_small n l pc 6 hl hpc 0 ms x hx
      · rw [List.mem_singleton.mp hx]; simp only [List.length_drop]; omega
    · simp only [List.length_append, ins_length, List.length_cons, List.length_nil]; omega
    · intro t' kt
      (repeat' (first | (k_unfold; (try dsimp only)) | ((with_reducible show wpAny _ _ (exec (Stmt.For (Expr.Tuple _ _ _) (Expr.Call _ _ _ _) _ _ _) _) _ _ _); (k_here; (rename Fr _ _ _ _ => lF'); (with_unfolding_all refine' For_turns lF' ?_; k_whole))) | ((with_reducible show wpAny _ _ (call (Value.builtin "len") _) _ _ _); (k_here; (with_reducible show wpAny _ _ (call (Value.builtin "len") [Value.ref _]) _ _ _); k_dflt (refine' kst_len ?k1 ?k2 ?k3 ?k4 ?_; (case k1 => k_asm); (case k2 => k_mem); (case k3 => first | assumption | exact rfl); (case k4 => ((try simp only [List.length_append, List.length_cons, List.length_nil]); omega)); k_whole))) | ((with_reducible show wpAny _ _ (subscriptTail (Expr.Name _ _) (Expr.Name _ _) _ _) _ _ _); (k_here; (with_reducible show wpAny _ _ (subscriptTail _ _ (Value.ref _) (Value.int _ _)) _ _ _); (with_unfolding_all refine' item_litK ?k1 ?k2 ?k3 ?k4 ?_ ?k6; (case k1 => exact News.isList (by k_asm) (by k_mem)); (case k2 => omega); (case k3 => omega); (case k4 => assumption); (case k6 => with_unfolding_all rfl); k_whole))) | ((with_reducible show wpAny _ _ (subscriptTail (Expr.Name _ _) (Expr.Constant _ _ _) _ _) _ _ _); (k_here; (with_reducible show wpAny _ _ (subscriptTail _ _ (Value.ref _) (Value.int _ _)) _ _ _); (with_unfolding_all refine' item_litK ?k1 ?k2 ?k3 ?k4 ?_ ?k6; (case k1 => exact News.isList (by k_asm) (by k_mem)); (case k2 => decide); (case k3 => decide); (case k4 => rfl); (case k6 => with_unfolding_all rfl); k_whole))) | (k_end; kc_close) | walk1 | (dsimp only; walk1) | (leave1; walk_say "STEP leave1"; (try dsimp only)) | fail "no step"))
      exact hret _ _ _ (by assumption) (cb_drop (by assumption) (fun p hp => List.mem_cons_of_mem _ hp))
end
end
section
section
variable {w : World} {dp un : Nat} {gd : Option (List Code)} {cn : Str} {cs : Scope} {a : Addr} {ccd : Value} {cl : List (Str × Addr)} {outer : List Env} {A₀ : Around} {base h₀ : Heap} {L : Addr} {m : Str → Option Value} {news : List (Addr × Obj)} {s : Shared} {p : Program} {loose : List Str} {mean : ExcName → Option Value} {mg mb : Str → Option Value} {Q E : Value → Shared → Prop}
theorem nm3 {a b : List (Addr × Obj)} (h : ∀ p ∈ a, p ∈ b) : ∃ c, c = b ∧ ∀ p ∈ a, p ∈ c := ⟨b, rfl, h⟩

theorem append_L {prog : Program} {w : World} {A : Around} {E : Value → Shared → Prop} {s : Shared} {h₀ : Heap} {L D : Addr} {m : Str → Option Value} {news news' : List (Addr × Obj)} {ws : List Value} {n : Nat} {x : Value} {Q : Value → Shared → Prop} (F : Fr h₀ L s.heap m) (N : News h₀ L s.heap news) (U : Upd D (listOf ws.toArray n) (listOf (ws ++ [x]).toArray (n + 1)) news news')
    (h : ∀ h', Fr h₀ L h' m → News h₀ L h' news' → Q .none { s with heap := h' }) (hsz : ws.toArray.size ≤ sizeLine := by size_fits) : wpAny (model prog w) A (call (.builtin "list.append") [.ref D, x]) Q E s :=
  append_K F N (by rw [List.push_toArray]; exact U) h hsz

theorem match_in (B : Below A₀ base outer h₀) (F : Fr h₀ L s.heap m) (X : (hd.heap_1_39 w.params).In h₀) (T : Top p loose mean mg mb h₀) (hk : cs.kind = .function) (hdd : dp + 20 < recursionLimit) (hu : un + 200 < cLine) (lf : Addr) (o : Obj) (ho : o.cls = .type "list") (N : News h₀ L s.heap ((lf, o) :: news)) (hne : ∀ p ∈ news, p.1 ≠ lf) (P lm : Addr) (fl : Str) (W l : List Nat) (i : Nat) (iI : Int) (tt ti : Tok) (ic : Bool) (hiI : iI = (i : Nat)) (hfl : fl.length ≤ 10) (hic : (!(Builtin.Str.occurrences fl (Str.ofString "i") 0 fl.length 1).isEmpty) = ic) (hl : l.length ≤ 6) (hi : i ≤ l.length) (hW : W.length ≤ 7) (hP : PatIn w news P W fl) (hlm : LimIn w news lm) (hfc : ∀ c ∈ W, ic = true → Fold c) (hfe : ∀ e ∈ l, ic = true → Fold e)
  (hyes : ∀ R rest h' tk', MatchAt ic W l i → MTup [] rest R (i : Nat) ((i : Int) + (W.length : Nat)) → (∀ p ∈ news, p ∈ rest) → (∀ p ∈ rest, p.1 ≠ lf) → Fr h₀ L h' m → News h₀ L h' ((lf, o) :: rest) → Q (.ref R) {s with heap := h', toks := tk'})
  (hno : ∀ rest h' tk', ¬ MatchAt ic W l i → (∀ p ∈ news, p ∈ rest) → (∀ p ∈ rest, p.1 ≠ lf) → Fr h₀ L h' m → News h₀ L h' ((lf, o) :: rest) → Q .none {s with heap := h', toks := tk'}) :
  wpAny (model prog w) (ktrTop dp un gd cn cs L a ccd cl outer) (call (.ref 654) [.ref P, .str (S l) tt, .int iI ti, .ref lm]) Q E s := by
  have key : ∀ (rest : List (Addr × Obj)) h', (∀ p ∈ (lf, o) :: news, p ∈ rest) → News h₀ L h' rest → (∀ p ∈ news, p ∈ rest.filter fun p => decide (p.1 ≠ lf)) ∧ (∀ p ∈ rest.filter (fun p => decide (p.1 ≠ lf)), p.1 ≠ lf) ∧ News h₀ L h' ((lf, o) :: rest.filter fun p => decide (p.1 ≠ lf)) := by
    intro rest h' hs N'
    refine ⟨fun p hp => List.mem_filter.mpr ⟨hs p (List.mem_cons_of_mem _ hp), by simpa using hne p hp⟩, fun p hp => by simpa using (List.mem_filter.mp hp).2, fun p hp => ?_⟩
    rcases List.mem_cons.mp hp with rfl | hp
    · exact N' _ (hs _ List.mem_cons_self)
    · exact N' _ (List.mem_filter.mp hp).1
  refine match_from_ok (news := (lf, o) :: news) B F X N T hk hdd hu P lm fl W l i iI tt ti ic hiI hfl hic hl hi hW (hP.mono fun p hp => List.mem_cons_of_mem _ hp) (hlm.mono fun p hp => List.mem_cons_of_mem _ hp) hfc hfe ?_ ?_
  · intro R rest h' tk' h3 hT hs F' N'
    obtain ⟨a1, a2, a3⟩ := key rest h' hs N'
    refine hyes R _ h' tk' h3 ?_ a1 a2 F' a3
    obtain ⟨g, t, p, kk, b1, b2, b3⟩ := hT
    have hR : R ≠ lf := obj_ne N' b2 (hs _ List.mem_cons_self) (by rw [ho]; show ¬ (Value.type "tuple" = Value.type "list"); intro e; injection e with e; exact absurd e (by decide))
    exact ⟨g, t, p, kk, (fun _ h => nomatch h), List.mem_filter.mpr ⟨b2, by simpa using hR⟩, List.mem_filter.mpr ⟨b3, by simpa using Nat.ne_of_gt (b1 _ List.mem_cons_self)⟩⟩
  · intro rest h' tk' h1 hs F' N'
    obtain ⟨a1, a2, a3⟩ := key rest h' hs N'
    exact hno _ h' tk' h1 a1 a2 F' a3

theorem split_by_ok (B : Below A₀ base outer h₀) (F : Fr h₀ L s.heap m) (X : (hd.heap_1_39 w.params).In h₀) (N : News h₀ L s.heap news) (T : Top p loose mean mg mb h₀) (hk : cs.kind = .function) (hdd : dp + 24 < recursionLimit) (hu : un + 240 < cLine) (P lm : Addr) (fl : Str) (W l : List Nat) (tt t3 : Tok) (ic : Bool) (hfl : fl.length ≤ 10) (hic : (!(Builtin.Str.occurrences fl (Str.ofString "i") 0 fl.length 1).isEmpty) = ic) (hl : l.length ≤ 6) (hW0 : 0 < W.length) (hW : W.length ≤ 7) (hP : PatIn w news P W fl) (hlm : LimIn w news lm) (hfc : ∀ c ∈ W, ic = true → Fold c) (hfe : ∀ e ∈ l, ic = true → Fold e)
  (hret : ∀ lf vs ms kk rest h' tk', Done ic W l ms → CarriedAll vs (StrD (parts W.length l ms)) → (∀ p ∈ news, p ∈ rest) → Fr h₀ L h' m → News h₀ L h' ((lf, listOf vs.toArray kk) :: rest) → Q (.ref lf) {s with heap := h', toks := tk'}) :
  wpAny (model prog w) (ktrTop dp un gd cn cs L a ccd cl outer) (call (.ref 687) [.ref P, .str (S l) tt, .int 99 t3, .ref lm]) Q E s := by
  subst hic
  have hSl := S_length l
  have hTl : (S l).length ≤ 10 := by omega
  by_cases h0 : l = []
  · have hle : (S l == Str.ofString "") = true := by rw [S_empty, decide_eq_true_iff]; exact h0
    have hz : (0 : Int) = ((0 : Nat) : Int) := rfl
    refine wpAny_call ?_
    cell_enter
    (repeat' (first | (k_unfold; (try dsimp only)) | (((with_reducible show wpAny _ _ (call (Value.ref 654) _) _ _ _); k_dflt (refine' match_in ?k1 ?k2 ?k3 ?k5 ?kK ?kd ?ku _ _ ?kZ ?k4 ?kN _ _ _ _ _ _ _ _ _ _ ?kI ?ka ?kb ?kc ?ke ?kf ?kg ?kh ?ki ?kj ?_ ?_; (case k1 => k_asm); (case k2 => k_asm); (case k3 => k_asm); (case k5 => k_asm); (case kK => first | exact rfl | assumption); (case kd => ktr_room); (case ku => ktr_units); (case k4 => k_asm); (case kZ => exact rfl); (case kN => assumption); (case kg => exact PatIn.mono (by assumption) (fun p hp => by k_mem)); (case kI => assumption); (case ka => assumption); (case kb => exact rfl); (case kc => assumption); (case ke => first | assumption | omega); (case kf => assumption); (case kh => exact LimIn.mono (by assumption) (fun p hp => by k_mem)); (case ki => assumption); (case kj => assumption); skip); (intro R9 rest9 h9 tk9 hM9 hT9 hs9 hn9 F9 N9); k_dflt (rcases hT9 with ⟨g9, t9, p9, kk9, hz9, hR9, hg9⟩); (try dsimp only); (try k_fold); rotate_left; (intro rest9 h9 tk9 hM9 hs9 hn9 F9 N9); (try dsimp only); (try k_fold); rotate_left)) | (((with_reducible show wpAny _ _ (call (Value.ref 654) _) _ _ _); k_dflt (refine' match_from_ok ?k1 ?k2 ?k3 ?k4 ?k5 ?kK ?kd ?ku _ _ _ _ _ _ _ _ _ _ ?kI ?ka ?kb ?kc ?ke ?kf ?kg ?kh ?ki ?kj ?_ ?_; (case k1 => k_asm); (case k2 => k_asm); (case k3 => k_asm); (case k4 => k_asm); (case k5 => k_asm); (case kK => first | exact rfl | assumption); (case kd => ktr_room); (case ku => ktr_units); (case kg => exact PatIn.mono (by assumption) (fun p hp => by k_mem)); (case kI => assumption); (case ka => assumption); (case kb => exact rfl); (case kc => assumption); (case ke => first | assumption | omega); (case kf => assumption); (case kh => exact LimIn.mono (by assumption) (fun p hp => by k_mem)); (case ki => assumption); (case kj => assumption); skip); (intro R9 rest9 h9 tk9 hM9 hT9 hs9 F9 N9); (try dsimp only); (try k_fold); rotate_left; (intro rest9 h9 tk9 hM9 hs9 F9 N9); (try dsimp only); (try k_fold); rotate_left)) | ((with_reducible show wpAny _ _ (call (Value.builtin "list.append") _) _ _ _); (k_here; (with_reducible show wpAny _ _ (call (Value.builtin _) [Value.ref _, _]) _ _ _); k_dflt (refine' append_L ?k1 ?k2 ?k3 ?_ ?z; (case k1 => k_asm); (case k2 => k_asm); (case k3 => k_upd); (case z => size_fits); k_whole); intro h' F' N'; (try k_sweep))) | ((with_reducible show wpAny _ _ (exec (Stmt.For (Expr.Name _ _) (Expr.BinOp _ _ _ _) _ _ _) _) _ _ _); (k_here; (rename Fr _ _ _ _ => lF'); (with_unfolding_all refine' For_turns lF' ?_; k_whole))) | ((with_reducible show wpAny _ _ (call (Value.builtin "len") _) _ _ _); (k_here; (with_reducible show wpAny _ _ (call (Value.builtin "len") [Value.ref _]) _ _ _); k_dflt (refine' kst_len ?k1 ?k2 ?k3 ?k4 ?_; (case k1 => k_asm); (case k2 => k_mem); (case k3 => first | assumption | exact rfl); (case k4 => ((try simp only [List.length_append, List.length_cons, List.length_nil]); omega)); k_whole))) | ((with_reducible show wpAny _ _ (subscriptTail (Expr.Name _ _) (Expr.Constant _ _ _) _ _) _ _ _); (k_here; (with_reducible show wpAny _ _ (subscriptTail _ _ (Value.ref _) (Value.int _ _)) _ _ _); (with_unfolding_all refine' item_litK ?k1 ?k2 ?k3 ?k4 ?_ ?k6; (case k1 => exact News.isList (by k_asm) (by k_mem)); (case k2 => decide); (case k3 => decide); (case k4 => rfl); (case k6 => with_unfolding_all rfl); k_whole))) | (k_end; kc_close) | walk1 | (dsimp only; walk1) | (leave1; walk_say "STEP leave1"; (try dsimp only)) | fail "no step"))
    · have hM := ‹MatchAt _ W l 0›.fits hW0
      subst h0
      simp only [List.length_nil] at hM
      omega
    · rename News _ _ _ _ => N9
      have hs := ‹∀ p ∈ news, p ∈ _›
      subst h0
      refine hret _ _ [] _ _ _ _ ⟨0, .nil, fun j h1 h2 hM => ?_⟩ (.cons (.str _ _) .nil) hs (by assumption) N9
      have := hM.fits hW0
      simp only [List.length_nil] at this
      omega
  · have hle : (S l == Str.ofString "") = false := by rw [S_empty, decide_eq_false_iff_not]; exact h0
    refine wpAny_call ?_
    cell_enter
    (repeat ((fail_if_success (with_reducible show wpAny _ _ (exec (Stmt.While _ _ _ _) _) _ _ _)); first | (k_unfold; (try dsimp only)) | (((with_reducible show wpAny _ _ (call (Value.ref 654) _) _ _ _); k_dflt (refine' match_in ?k1 ?k2 ?k3 ?k5 ?kK ?kd ?ku _ _ ?kZ ?k4 ?kN _ _ _ _ _ _ _ _ _ _ ?kI ?ka ?kb ?kc ?ke ?kf ?kg ?kh ?ki ?kj ?_ ?_; (case k1 => k_asm); (case k2 => k_asm); (case k3 => k_asm); (case k5 => k_asm); (case kK => first | exact rfl | assumption); (case kd => ktr_room); (case ku => ktr_units); (case k4 => k_asm); (case kZ => exact rfl); (case kN => assumption); (case kg => exact PatIn.mono (by assumption) (fun p hp => by k_mem)); (case kI => assumption); (case ka => assumption); (case kb => exact rfl); (case kc => assumption); (case ke => first | assumption | omega); (case kf => assumption); (case kh => exact LimIn.mono (by assumption) (fun p hp => by k_mem)); (case ki => assumption); (case kj => assumption); skip); (intro R9 rest9 h9 tk9 hM9 hT9 hs9 hn9 F9 N9); k_dflt (rcases hT9 with ⟨g9, t9, p9, kk9, hz9, hR9, hg9⟩); (try dsimp only); (try k_fold); rotate_left; (intro rest9 h9 tk9 hM9 hs9 hn9 F9 N9); (try dsimp only); (try k_fold); rotate_left)) | (((with_reducible show wpAny _ _ (call (Value.ref 654) _) _ _ _); k_dflt (refine' match_from_ok ?k1 ?k2 ?k3 ?k4 ?k5 ?kK ?kd ?ku _ _ _ _ _ _ _ _ _ _ ?kI ?ka ?kb ?kc ?ke ?kf ?kg ?kh ?ki ?kj ?_ ?_; (case k1 => k_asm); (case k2 => k_asm); (case k3 => k_asm); (case k4 => k_asm); (case k5 => k_asm); (case kK => first | exact rfl | assumption); (case kd => ktr_room); (case ku => ktr_units); (case kg => exact PatIn.mono (by assumption) (fun p hp => by k_mem)); (case kI => assumption); (case ka => assumption); (case kb => exact rfl); (case kc => assumption); (case ke => first | assumption | omega); (case kf => assumption); (case kh => exact LimIn.mono (by assumption) (fun p hp => by k_mem)); (case ki => assumption); (case kj => assumption); skip); (intro R9 rest9 h9 tk9 hM9 hT9 hs9 F9 N9); (try dsimp only); (try k_fold); rotate_left; (intro rest9 h9 tk9 hM9 hs9 F9 N9); (try dsimp only); (try k_fold); rotate_left)) | ((with_reducible show wpAny _ _ (call (Value.builtin "list.append") _) _ _ _); (k_here; (with_reducible show wpAny _ _ (call (Value.builtin _) [Value.ref _, _]) _ _ _); k_dflt (refine' append_L ?k1 ?k2 ?k3 ?_ ?z; (case k1 => k_asm); (case k2 => k_asm); (case k3 => k_upd); (case z => size_fits); k_whole); intro h' F' N'; (try k_sweep))) | ((with_reducible show wpAny _ _ (exec (Stmt.For (Expr.Name _ _) (Expr.BinOp _ _ _ _) _ _ _) _) _ _ _); (k_here; (rename Fr _ _ _ _ => lF'); (with_unfolding_all refine' For_turns lF' ?_; k_whole))) | ((with_reducible show wpAny _ _ (call (Value.builtin "len") _) _ _ _); (k_here; (with_reducible show wpAny _ _ (call (Value.builtin "len") [Value.ref _]) _ _ _); k_dflt (refine' kst_len ?k1 ?k2 ?k3 ?k4 ?_; (case k1 => k_asm); (case k2 => k_mem); (case k3 => first | assumption | exact rfl); (case k4 => ((try simp only [List.length_append, List.length_cons, List.length_nil]); omega)); k_whole))) | ((with_reducible show wpAny _ _ (subscriptTail (Expr.Name _ _) (Expr.Constant _ _ _) _ _) _ _ _); (k_here; (with_reducible show wpAny _ _ (subscriptTail _ _ (Value.ref _) (Value.int _ _)) _ _ _); (with_unfolding_all refine' item_litK ?k1 ?k2 ?k3 ?k4 ?_ ?k6; (case k1 => exact News.isList (by k_asm) (by k_mem)); (case k2 => decide); (case k3 => decide); (case k4 => rfl); (case k6 => with_unfolding_all rfl); k_whole))) | walk1 | (dsimp only; walk1)))
    have lt1 := ‹∀ p ∈ news, p.1 < _›
    rename _ ∧ AllLt _ _ => l1
    rename Fr _ _ _ _ => F1; rename News _ _ _ _ => N1
    obtain ⟨tp, rfl, _⟩ := nm_lt l1.1
    obtain ⟨lf, rfl, _⟩ := nm2 l1.1
    have N1' := cb_drop N1 (fun p hp => List.mem_cons_of_mem _ hp)
    clear N1
    refine while_inv (n₀ := l.length) [Str.ofString "at", Str.ofString "begin", Str.ofString "met", Str.ofString "piece"] (fun nn u nw => ∃ (vs : List Value) (ms : List Nat) (st i kk : Nat) (bI iI : Int) (ta tb : Tok) (rest : List (Addr × Obj)), nw = (lf, listOf vs.toArray kk) :: rest ∧ (∀ p ∈ news, p ∈ rest) ∧ (∀ p ∈ rest, p.1 ≠ lf) ∧ Acc (!(Builtin.Str.occurrences fl (Str.ofString "i") 0 fl.length 1).isEmpty) W l ms st ∧ CarriedAll vs (StrD (cuts W.length l 0 ms)) ∧ nn + i = l.length ∧ st ≤ i ∧ i ≤ l.length ∧ (∀ j, st ≤ j → j < i → ¬ MatchAt (!(Builtin.Str.occurrences fl (Str.ofString "i") 0 fl.length 1).isEmpty) W l j) ∧ bI = (st : Nat) ∧ iI = (i : Nat) ∧ u (Str.ofString "begin") = some (.int bI tb) ∧ u (Str.ofString "at") = some (.int iI ta)) F1 N1' ⟨[], [], 0, 0, 0, 0, 0, _, _, news, rfl, fun p hp => hp, fun p hp => Nat.ne_of_lt (lt1 p hp), .nil, .nil, rfl, Nat.le_refl _, Nat.zero_le _, fun j h1 h2 => by omega, rfl, rfl, rfl, rfl⟩ ?_
    rintro nn u nw h tk ⟨vs, ms, st, i, kk, bI, iI, ta, tb, rest, rfl, hr1, hr2, hA, hC, hnn, hsi, hi, hno, hbI, hiI, hu1, hu2⟩ F2 N2
    have F3 := fr_put (x := Str.ofString "begin") (v := .int bI tb) (fr_put (x := Str.ofString "at") (v := .int iI ta) F2 (by simp [upd, hu2])) (by show ite _ _ _ = _; rw [if_neg (by decide +kernel)]; simp [upd, hu1])
    clear F2
    have hP' := hP.mono hr1
    have hlm' := hlm.mono hr1
    clear hP hlm
    have hvs : vs.length ≤ 10 := by
      have h1 := hA.bound hW0
      have h2 := hC.length_eq
      simp only [StrD, List.length_map, cuts_length] at h2
      omega
    (repeat' (first | (k_unfold; (try dsimp only)) | (((with_reducible show wpAny _ _ (call (Value.ref 654) _) _ _ _); k_dflt (refine' match_in ?k1 ?k2 ?k3 ?k5 ?kK ?kd ?ku _ _ ?kZ ?k4 ?kN _ _ _ _ _ _ _ _ _ _ ?kI ?ka ?kb ?kc ?ke ?kf ?kg ?kh ?ki ?kj ?_ ?_; (case k1 => k_asm); (case k2 => k_asm); (case k3 => k_asm); (case k5 => k_asm); (case kK => first | exact rfl | assumption); (case kd => ktr_room); (case ku => ktr_units); (case k4 => k_asm); (case kZ => exact rfl); (case kN => assumption); (case kg => exact PatIn.mono (by assumption) (fun p hp => by k_mem)); (case kI => assumption); (case ka => assumption); (case kb => exact rfl); (case kc => assumption); (case ke => first | assumption | omega); (case kf => assumption); (case kh => exact LimIn.mono (by assumption) (fun p hp => by k_mem)); (case ki => assumption); (case kj => assumption); skip); (intro R9 rest9 h9 tk9 hM9 hT9 hs9 hn9 F9 N9); k_dflt (rcases hT9 with ⟨g9, t9, p9, kk9, hz9, hR9, hg9⟩); (try dsimp only); (try k_fold); rotate_left; (intro rest9 h9 tk9 hM9 hs9 hn9 F9 N9); (try dsimp only); (try k_fold); rotate_left)) | (((with_reducible show wpAny _ _ (call (Value.ref 654) _) _ _ _); k_dflt (refine' match_from_ok ?k1 ?k2 ?k3 ?k4 ?k5 ?kK ?kd ?ku _ _ _ _ _ _ _ _ _ _ ?kI ?ka ?kb ?kc ?ke ?kf ?kg ?kh ?ki ?kj ?_ ?_; (case k1 => k_asm); (case k2 => k_asm); (case k3 => k_asm); (case k4 => k_asm); (case k5 => k_asm); (case kK => first | exact rfl | assumption); (case kd => ktr_room); (case ku => ktr_units); (case kg => exact PatIn.mono (by assumption) (fun p hp => by k_mem)); (case kI => assumption); (case ka => assumption); (case kb => exact rfl); (case kc => assumption); (case ke => first | assumption | omega); (case kf => assumption); (case kh => exact LimIn.mono (by assumption) (fun p hp => by k_mem)); (case ki => assumption); (case kj => assumption); skip); (intro R9 rest9 h9 tk9 hM9 hT9 hs9 F9 N9); (try dsimp only); (try k_fold); rotate_left; (intro rest9 h9 tk9 hM9 hs9 F9 N9); (try dsimp only); (try k_fold); rotate_left)) | ((with_reducible show wpAny _ _ (call (Value.builtin "list.append") _) _ _ _); (k_here; (with_reducible show wpAny _ _ (call (Value.builtin _) [Value.ref _, _]) _ _ _); k_dflt (refine' append_L ?k1 ?k2 ?k3 ?_ ?z; (case k1 => k_asm); (case k2 => k_asm); (case k3 => k_upd); (case z => size_fits); k_whole); intro h' F' N'; (try k_sweep))) | ((with_reducible show wpAny _ _ (exec (Stmt.For (Expr.Name _ _) (Expr.BinOp _ _ _ _) _ _ _) _) _ _ _); (k_here; (rename Fr _ _ _ _ => lF'); (with_unfolding_all refine' For_turns lF' ?_; k_whole))) | ((with_reducible show wpAny _ _ (call (Value.builtin "len") _) _ _ _); (k_here; (with_reducible show wpAny _ _ (call (Value.builtin "len") [Value.ref _]) _ _ _); k_dflt (refine' kst_len ?k1 ?k2 ?k3 ?k4 ?_; (case k1 => k_asm); (case k2 => k_mem); (case k3 => first | assumption | exact rfl); (case k4 => ((try simp only [List.length_append, List.length_cons, List.length_nil]); omega)); k_whole))) | ((with_reducible show wpAny _ _ (subscriptTail (Expr.Name _ _) (Expr.Constant _ _ _) _ _) _ _ _); (k_here; (with_reducible show wpAny _ _ (subscriptTail _ _ (Value.ref _) (Value.int _ _)) _ _ _); (with_unfolding_all refine' item_litK ?k1 ?k2 ?k3 ?k4 ?_ ?k6; (case k1 => exact News.isList (by k_asm) (by k_mem)); (case k2 => decide); (case k3 => decide); (case k4 => rfl); (case k6 => with_unfolding_all rfl); k_whole))) | (k_end; kc_close) | walk1 | (dsimp only; walk1) | (leave1; walk_say "STEP leave1"; (try dsimp only)) | fail "no step"))
    · exfalso
      omega
    · exact absurd ‹_ ∈ ([] : List Int)› List.not_mem_nil
    · rename _ = (List.map _ ([] : List Int)).length => hy
      obtain rfl := List.length_eq_zero_iff.mp hy
      have hs := ‹∀ p ∈ rest, p ∈ _›
      have hn9 := ‹∀ p ∈ (_ : List (Addr × Obj)), p.1 ≠ lf›
      obtain ⟨r9, rfl, hs⟩ := nm3 hs
      rename News _ _ _ _ => N9; rename Fr _ _ _ _ => F9
      have N8 := ‹News _ _ (Shared.heap _) ((_, LCg.lst []) :: (_, _) :: (_, _) :: (lf, _) :: _)›
      have hlt := Heap.lt_size (N8 _ (.tail _ (.tail _ (.tail _ (.head _))))).1
      clear N8
      have hq := N9 _ List.mem_cons_self
      have N9' := cb_drop N9 (fun p hp => .tail _ (.tail _ (.tail _ (.tail _ hp))))
      clear N9
      refine turns_listG (vs := [_]) [Str.ofString "piece"] rfl ⟨_, hq.1, rfl, _, rfl⟩ hq.2.1.symm F9 N9' (fun j _ nw => (j = 0 → nw = (lf, listOf vs.toArray kk) :: r9) ∧ (j = 1 → ∃ t k, nw = (lf, listOf (vs ++ [Value.str (Txt.slice (S l) (some bI) (some iI)) t]).toArray k) :: r9)) ⟨fun _ => rfl, fun h => by cases h⟩ ?_ ?_
      · rintro j v u' nw h' tk' own I' hv ⟨hj0, _⟩ hI ⟨oI, hoI⟩ hown F5 N5
        obtain rfl : j = 0 := by have := (List.getElem?_eq_some_iff.mp hv).1; simp at this; omega
        obtain rfl := Option.some.inj hv
        obtain rfl := hj0 rfl
        have hlI : lf ≠ I' := hI _ List.mem_cons_self
        have hro : ∀ p ∈ r9 ++ own, p.1 ≠ lf := List.forall_mem_append.mpr ⟨hn9, fun p hp => (hown p hp).elim (fun e => e ▸ hlI.symm) (fun e => e ▸ Nat.ne_of_gt hlt)⟩
        have N3 := news_own N5
        clear N5
        (repeat' (first | (k_unfold; (try dsimp only)) | (((with_reducible show wpAny _ _ (call (Value.ref 654) _) _ _ _); k_dflt (refine' match_in ?k1 ?k2 ?k3 ?k5 ?kK ?kd ?ku _ _ ?kZ ?k4 ?kN _ _ _ _ _ _ _ _ _ _ ?kI ?ka ?kb ?kc ?ke ?kf ?kg ?kh ?ki ?kj ?_ ?_; (case k1 => k_asm); (case k2 => k_asm); (case k3 => k_asm); (case k5 => k_asm); (case kK => first | exact rfl | assumption); (case kd => ktr_room); (case ku => ktr_units); (case k4 => k_asm); (case kZ => exact rfl); (case kN => assumption); (case kg => exact PatIn.mono (by assumption) (fun p hp => by k_mem)); (case kI => assumption); (case ka => assumption); (case kb => exact rfl); (case kc => assumption); (case ke => first | assumption | omega); (case kf => assumption); (case kh => exact LimIn.mono (by assumption) (fun p hp => by k_mem)); (case ki => assumption); (case kj => assumption); skip); (intro R9 rest9 h9 tk9 hM9 hT9 hs9 hn9 F9 N9); k_dflt (rcases hT9 with ⟨g9, t9, p9, kk9, hz9, hR9, hg9⟩); (try dsimp only); (try k_fold); rotate_left; (intro rest9 h9 tk9 hM9 hs9 hn9 F9 N9); (try dsimp only); (try k_fold); rotate_left)) | (((with_reducible show wpAny _ _ (call (Value.ref 654) _) _ _ _); k_dflt (refine' match_from_ok ?k1 ?k2 ?k3 ?k4 ?k5 ?kK ?kd ?ku _ _ _ _ _ _ _ _ _ _ ?kI ?ka ?kb ?kc ?ke ?kf ?kg ?kh ?ki ?kj ?_ ?_; (case k1 => k_asm); (case k2 => k_asm); (case k3 => k_asm); (case k4 => k_asm); (case k5 => k_asm); (case kK => first | exact rfl | assumption); (case kd => ktr_room); (case ku => ktr_units); (case kg => exact PatIn.mono (by assumption) (fun p hp => by k_mem)); (case kI => assumption); (case ka => assumption); (case kb => exact rfl); (case kc => assumption); (case ke => first | assumption | omega); (case kf => assumption); (case kh => exact LimIn.mono (by assumption) (fun p hp => by k_mem)); (case ki => assumption); (case kj => assumption); skip); (intro R9 rest9 h9 tk9 hM9 hT9 hs9 F9 N9); (try dsimp only); (try k_fold); rotate_left; (intro rest9 h9 tk9 hM9 hs9 F9 N9); (try dsimp only); (try k_fold); rotate_left)) | ((with_reducible show wpAny _ _ (call (Value.builtin "list.append") _) _ _ _); (k_here; (with_reducible show wpAny _ _ (call (Value.builtin _) [Value.ref _, _]) _ _ _); k_dflt (refine' append_L ?k1 ?k2 ?k3 ?_ ?z; (case k1 => k_asm); (case k2 => k_asm); (case k3 => k_upd); (case z => size_fits); k_whole); intro h' F' N'; (try k_sweep))) | ((with_reducible show wpAny _ _ (exec (Stmt.For (Expr.Name _ _) (Expr.BinOp _ _ _ _) _ _ _) _) _ _ _); (k_here; (rename Fr _ _ _ _ => lF'); (with_unfolding_all refine' For_turns lF' ?_; k_whole))) | ((with_reducible show wpAny _ _ (call (Value.builtin "len") _) _ _ _); (k_here; (with_reducible show wpAny _ _ (call (Value.builtin "len") [Value.ref _]) _ _ _); k_dflt (refine' kst_len ?k1 ?k2 ?k3 ?k4 ?_; (case k1 => k_asm); (case k2 => k_mem); (case k3 => first | assumption | exact rfl); (case k4 => ((try simp only [List.length_append, List.length_cons, List.length_nil]); omega)); k_whole))) | ((with_reducible show wpAny _ _ (subscriptTail (Expr.Name _ _) (Expr.Constant _ _ _) _ _) _ _ _); (k_here; (with_reducible show wpAny _ _ (subscriptTail _ _ (Value.ref _) (Value.int _ _)) _ _ _); (with_unfolding_all refine' item_litK ?k1 ?k2 ?k3 ?k4 ?_ ?k6; (case k1 => exact News.isList (by k_asm) (by k_mem)); (case k2 => decide); (case k3 => decide); (case k4 => rfl); (case k6 => with_unfolding_all rfl); k_whole))) | (k_end; kc_close) | walk1 | (dsimp only; walk1) | (leave1; walk_say "STEP leave1"; (try dsimp only)) | fail "no step"))
        · exfalso
          rename (_ : Int) = 99 => h9
          simp only [List.length_append, List.length_cons, List.length_nil] at h9
          omega
        · rename News _ _ _ _ => N9; rename Fr _ _ _ _ => F9
          refine ⟨_, _, _, _, rfl, F9, news_back N9, List.forall_mem_cons.mpr ⟨hlI, fun p hp => hI p (List.mem_cons_of_mem _ hp)⟩, by ((intro y hy; have hc := hy; (simp only [List.contains_cons, List.contains_nil, Bool.or_false, Bool.or_eq_false_iff, beq_eq_false_iff_ne, ne_eq] at hc); (simp [upd, hy, hc]))), ?_⟩
          exact And.intro (fun h => absurd h (by omega)) (fun _ => ⟨_, _, rfl⟩)
      · rintro u' nw h' tk' ⟨_, hj1⟩ F5 N5
        obtain ⟨t5, k5, rfl⟩ := hj1 rfl
        (repeat' (first | (k_unfold; (try dsimp only)) | (((with_reducible show wpAny _ _ (call (Value.ref 654) _) _ _ _); k_dflt (refine' match_in ?k1 ?k2 ?k3 ?k5 ?kK ?kd ?ku _ _ ?kZ ?k4 ?kN _ _ _ _ _ _ _ _ _ _ ?kI ?ka ?kb ?kc ?ke ?kf ?kg ?kh ?ki ?kj ?_ ?_; (case k1 => k_asm); (case k2 => k_asm); (case k3 => k_asm); (case k5 => k_asm); (case kK => first | exact rfl | assumption); (case kd => ktr_room); (case ku => ktr_units); (case k4 => k_asm); (case kZ => exact rfl); (case kN => assumption); (case kg => exact PatIn.mono (by assumption) (fun p hp => by k_mem)); (case kI => assumption); (case ka => assumption); (case kb => exact rfl); (case kc => assumption); (case ke => first | assumption | omega); (case kf => assumption); (case kh => exact LimIn.mono (by assumption) (fun p hp => by k_mem)); (case ki => assumption); (case kj => assumption); skip); (intro R9 rest9 h9 tk9 hM9 hT9 hs9 hn9 F9 N9); k_dflt (rcases hT9 with ⟨g9, t9, p9, kk9, hz9, hR9, hg9⟩); (try dsimp only); (try k_fold); rotate_left; (intro rest9 h9 tk9 hM9 hs9 hn9 F9 N9); (try dsimp only); (try k_fold); rotate_left)) | (((with_reducible show wpAny _ _ (call (Value.ref 654) _) _ _ _); k_dflt (refine' match_from_ok ?k1 ?k2 ?k3 ?k4 ?k5 ?kK ?kd ?ku _ _ _ _ _ _ _ _ _ _ ?kI ?ka ?kb ?kc ?ke ?kf ?kg ?kh ?ki ?kj ?_ ?_; (case k1 => k_asm); (case k2 => k_asm); (case k3 => k_asm); (case k4 => k_asm); (case k5 => k_asm); (case kK => first | exact rfl | assumption); (case kd => ktr_room); (case ku => ktr_units); (case kg => exact PatIn.mono (by assumption) (fun p hp => by k_mem)); (case kI => assumption); (case ka => assumption); (case kb => exact rfl); (case kc => assumption); (case ke => first | assumption | omega); (case kf => assumption); (case kh => exact LimIn.mono (by assumption) (fun p hp => by k_mem)); (case ki => assumption); (case kj => assumption); skip); (intro R9 rest9 h9 tk9 hM9 hT9 hs9 F9 N9); (try dsimp only); (try k_fold); rotate_left; (intro rest9 h9 tk9 hM9 hs9 F9 N9); (try dsimp only); (try k_fold); rotate_left)) | ((with_reducible show wpAny _ _ (call (Value.builtin "list.append") _) _ _ _); (k_here; (with_reducible show wpAny _ _ (call (Value.builtin _) [Value.ref _, _]) _ _ _); k_dflt (refine' append_L ?k1 ?k2 ?k3 ?_ ?z; (case k1 => k_asm); (case k2 => k_asm); (case k3 => k_upd); (case z => size_fits); k_whole); intro h' F' N'; (try k_sweep))) | ((with_reducible show wpAny _ _ (exec (Stmt.For (Expr.Name _ _) (Expr.BinOp _ _ _ _) _ _ _) _) _ _ _); (k_here; (rename Fr _ _ _ _ => lF'); (with_unfolding_all refine' For_turns lF' ?_; k_whole))) | ((with_reducible show wpAny _ _ (call (Value.builtin "len") _) _ _ _); (k_here; (with_reducible show wpAny _ _ (call (Value.builtin "len") [Value.ref _]) _ _ _); k_dflt (refine' kst_len ?k1 ?k2 ?k3 ?k4 ?_; (case k1 => k_asm); (case k2 => k_mem); (case k3 => first | assumption | exact rfl); (case k4 => ((try simp only [List.length_append, List.length_cons, List.length_nil]); omega)); k_whole))) | ((with_reducible show wpAny _ _ (subscriptTail (Expr.Name _ _) (Expr.Constant _ _ _) _ _) _ _ _); (k_here; (with_reducible show wpAny _ _ (subscriptTail _ _ (Value.ref _) (Value.int _ _)) _ _ _); (with_unfolding_all refine' item_litK ?k1 ?k2 ?k3 ?k4 ?_ ?k6; (case k1 => exact News.isList (by k_asm) (by k_mem)); (case k2 => decide); (case k3 => decide); (case k4 => rfl); (case k6 => with_unfolding_all rfl); k_whole))) | (k_end; kc_close) | walk1 | (dsimp only; walk1) | (leave1; walk_say "STEP leave1"; (try dsimp only)) | fail "no step"))
        have hM := ‹MatchAt _ W l i›
        have hfit := hM.fits hW0
        have hcar : ∀ t, CarriedAll (vs ++ [.str (Txt.slice (S l) (some bI) (some iI)) t]) (StrD (cuts W.length l 0 (ms ++ [i]))) := fun t => by
          rw [cuts_snoc]
          exact carr_snoc hC (by rw [hbI, hiI, slice_S l st i hsi, ← hA.last])
        rename News _ _ _ _ => N9; rename Fr _ _ _ _ => F9
        refine ⟨_, _, _, _, l.length - (i + W.length), rfl, F9, N9, by omega, by ((intro y hy; have hc := hy; (simp only [List.contains_cons, List.contains_nil, Bool.or_false, Bool.or_eq_false_iff, beq_eq_false_iff_ne, ne_eq] at hc); (simp [upd, hy, hc]))), _, ms ++ [i], i + W.length, i + W.length, _, (i : Int) + (W.length : Nat), (i : Int) + (W.length : Nat), _, _, r9, rfl, fun p hp => hs p (hr1 p hp), hn9, .snoc hA hsi hi hM hno, hcar _, Nat.sub_add_cancel hfit, Nat.le_refl _, hfit, fun j h1 h2 => by omega, by omega, by omega, by first | rfl | (simp; done) | (show ite _ _ _ = _; rw [if_neg (by decide +kernel)]; simp; done) | (show ite _ _ _ = _; rw [if_neg (by decide +kernel)]; show ite _ _ _ = _; rw [if_neg (by decide +kernel)]; simp; done), by first | rfl | (simp; done) | (show ite _ _ _ = _; rw [if_neg (by decide +kernel)]; simp; done) | (show ite _ _ _ = _; rw [if_neg (by decide +kernel)]; show ite _ _ _ = _; rw [if_neg (by decide +kernel)]; simp; done)⟩
    · have hM := ‹¬ MatchAt _ W l i›
      have hs := ‹∀ p ∈ rest, p ∈ _›
      rename News _ _ _ _ => N9; rename Fr _ _ _ _ => F9
      refine ⟨_, _, _, _, l.length - (i + 1), rfl, F9, N9, by omega, by ((intro y hy; have hc := hy; (simp only [List.contains_cons, List.contains_nil, Bool.or_false, Bool.or_eq_false_iff, beq_eq_false_iff_ne, ne_eq] at hc); (simp [upd, hy, hc]))), vs, ms, st, i + 1, kk, bI, iI + 1, _, _, _, rfl, fun p hp => hs p (hr1 p hp), by assumption, hA, hC, by omega, by omega, by omega, fun j h1 h2 => ?_, hbI, by omega, by first | rfl | (simp; done) | (show ite _ _ _ = _; rw [if_neg (by decide +kernel)]; simp; done) | (show ite _ _ _ = _; rw [if_neg (by decide +kernel)]; show ite _ _ _ = _; rw [if_neg (by decide +kernel)]; simp; done), by first | rfl | (simp; done) | (show ite _ _ _ = _; rw [if_neg (by decide +kernel)]; simp; done) | (show ite _ _ _ = _; rw [if_neg (by decide +kernel)]; show ite _ _ _ = _; rw [if_neg (by decide +kernel)]; simp; done)⟩
      by_cases hj : j < i
      · exact hno j h1 hj
      · obtain rfl : j = i := by omega
        exact hM
    · rename News _ _ _ _ => N9
      refine hret lf _ ms _ _ _ _ ⟨st, hA, fun j h1 h2 hM => ?_⟩ (carr_snoc hC (by rw [hbI, slice_tail l st (by omega), ← hA.last])) hr1 (by assumption) N9
      have := hM.fits hW0
      exact hno j h1 (by omega) hM
end
end
end
section
/-- the places from `st` on, one behind another, to the end -/
inductive Fwd (ic : Bool) (W l : List Nat) : Nat → List Nat → Prop
  | stop {st : Nat} : (∀ j, st ≤ j → j ≤ l.length → ¬ MatchAt ic W l j) → Fwd ic W l st []
  | step {st k : Nat} {ms : List Nat} : st ≤ k → k ≤ l.length → MatchAt ic W l k → (∀ j, st ≤ j → j < k → ¬ MatchAt ic W l j) → Fwd ic W l (k + W.length) ms → Fwd ic W l st (k :: ms)
theorem Acc.fwd {ic : Bool} {W l ms : List Nat} {st : Nat} (h : Acc ic W l ms st) : ∀ ms', Fwd ic W l st ms' → Fwd ic W l 0 (ms ++ ms') := by
  induction h with
  | nil => intro ms' h; exact h
  | @snoc ms st k hA h1 h2 hM h4 ih =>
    intro ms' h
    rw [List.append_assoc]
    exact ih _ (.step h1 h2 hM h4 h)
theorem Done.fwd {ic : Bool} {W l ms : List Nat} (h : Done ic W l ms) : Fwd ic W l 0 ms := by
  obtain ⟨st, hA, hn⟩ := h
  have := hA.fwd [] (.stop hn)
  rwa [List.append_nil] at this
theorem Fwd.one {ic : Bool} {W l : List Nat} {st : Nat} {ms ms' : List Nat} (h : Fwd ic W l st ms) : Fwd ic W l st ms' → ms = ms' := by
  induction h generalizing ms' with
  | @stop st hn =>
    intro h'
    cases h' with
    | stop _ => rfl
    | step h1 h2 hM _ _ => exact absurd hM (hn _ h1 h2)
  | @step st k ms h1 h2 hM h4 _ ih =>
    intro h'
    cases h' with
    | stop hn => exact absurd hM (hn _ h1 h2)
    | @step _ k' ms' h1' h2' hM' h4' hr =>
      have e : k = k' := by
        rcases Nat.lt_trichotomy k k' with h | h | h
        · exact absurd hM (h4' _ h1 h)
        · exact h
        · exact absurd hM' (h4 _ h1' h)
      subst e
      rw [ih hr]
theorem Done.one {ic : Bool} {W l ms ms' : List Nat} (h : Done ic W l ms) (h' : Done ic W l ms') : ms = ms' := h.fwd.one h'.fwd
theorem Acc.turn {ic ic' : Bool} {W W' l l' : List Nat} (hM : ∀ j, MatchAt ic W l j ↔ MatchAt ic' W' l' j) (hW : W.length = W'.length) (hl : l.length = l'.length) {ms : List Nat} {st : Nat} (h : Acc ic W l ms st) : Acc ic' W' l' ms st := by
  induction h with
  | nil => exact .nil
  | @snoc ms st k hA h1 h2 h3 h4 ih => rw [hW]; exact .snoc ih h1 (hl ▸ h2) ((hM k).mp h3) (fun j a b c => h4 j a b ((hM j).mpr c))
theorem Done.turn {ic ic' : Bool} {W W' l l' : List Nat} (hM : ∀ j, MatchAt ic W l j ↔ MatchAt ic' W' l' j) (hW : W.length = W'.length) (hl : l.length = l'.length) {ms : List Nat} (h : Done ic W l ms) : Done ic' W' l' ms := by
  obtain ⟨st, hA, hn⟩ := h
  exact ⟨st, hA.turn hM hW hl, fun j a b c => hn j a (by rw [hl]; exact b) ((hM j).mpr c)⟩
theorem Done.none {ic : Bool} {W l ms : List Nat} (h : Done ic W l ms) (hn : ∀ j, ¬ MatchAt ic W l j) : ms = [] := h.one ⟨0, .nil, fun j _ _ => hn j⟩
/-- what find_from gives -/
def FR (W l : List Nat) (st : Nat) (r : Int) : Prop := (∃ k : Nat, r = (k : Nat) ∧ st ≤ k ∧ k + W.length ≤ l.length ∧ MatchAt false W l k ∧ ∀ j, st ≤ j → j < k → ¬ MatchAt false W l j) ∨ (r = -1 ∧ ∀ j, st ≤ j → j ≤ l.length → ¬ MatchAt false W l j)
section
variable {w : World} {dp un : Nat} {gd : Option (List Code)} {cn : Str} {cs : Scope} {a : Addr} {ccd : Value} {cl : List (Str × Addr)} {outer : List Env} {A₀ : Around} {base h₀ : Heap} {L : Addr} {m : Str → Option Value} {news : List (Addr × Obj)} {s : Shared} {p : Program} {loose : List Str} {mean : ExcName → Option Value} {mg mb : Str → Option Value} {Q E : Value → Shared → Prop}
theorem find_from_1 (B : Below A₀ base outer h₀) (F : Fr h₀ L s.heap m) (X : (hd.heap_1_39 w.params).In h₀) (N : News h₀ L s.heap news) (T : Top p loose mean mg mb h₀) (hk : cs.kind = .function) (hdd : dp + 6 < recursionLimit) (hu : un + 60 < cLine) (W l : List Nat) (st : Nat) (sI : Int) (t1 t2 t3 : Tok) (hsI : sI = (st : Nat)) (hl : l.length ≤ 6) (hW0 : 0 < W.length) (hW : W.length ≤ 7) (hst : st ≤ l.length)
  (hret : ∀ (r : Int) t h' tk', FR W l st r → Fr h₀ L h' m → News h₀ L h' news → Q (.int r t) {s with heap := h', toks := tk'}) :
  wpAny (model prog w) (ktrTop dp un gd cn cs L a ccd cl outer) (call (.ref 715) [.str (S l) t1, .str (S W) t2, .int sI t3]) Q E s :=
  find_from_ok B F X N T hk hdd hu W l st sI t1 t2 t3 hsI hl hW0 hW hst (fun k kI t h' tk' h1 h2 h3 h4 h5 F' N' => hret kI t h' tk' (.inl ⟨k, h2, h1, h3, h4, h5⟩) F' N') (fun t h' tk' h1 F' N' => hret (-1) t h' tk' (.inr ⟨rfl, h1⟩) F' N')
end
/-- a found place as data -/
def tupD (n k : Nat) : PyData := .tuple [.int (k : Nat), .int ((k : Int) + (n : Nat)), .list []]
theorem MTup.reads {h₀ h : Heap} {L : Addr} {nw nw' old : List (Addr × Obj)} {R : Addr} {k n : Nat} (N : News h₀ L h nw) (hT : MTup old nw' R (k : Nat) ((k : Int) + (n : Nat))) (hs : ∀ p ∈ nw', p ∈ nw) : ∃ as, Reads h (.ref R) (tupD n k) as := by
  obtain ⟨g, t, p, kk, _, hR, hg⟩ := hT
  exact ⟨_, reads_tuple_at (N.get (hs _ hR)) rfl rfl (.cons (.int _ _) (.cons (.int _ _) (.cons (reads_list_at (N.get (hs _ hg)) rfl rfl .nil) .nil)))⟩
theorem readsAll_of {h : Heap} {f : Nat → PyData} : ∀ (vs : List Value) (ms : List Nat), vs.length = ms.length → (∀ (i k : Nat), ms[i]? = some k → ∃ v as, vs[i]? = some v ∧ Reads h v (f k) as) → ∃ as, ReadsAll h vs (ms.map f) as
  | [], [], _, _ => ⟨_, .nil⟩
  | v :: vs, k :: ms, hl, hr => by
    obtain ⟨v', as, hv, hR⟩ := hr 0 k rfl
    obtain rfl : v = v' := by simpa using hv
    obtain ⟨bs, hb⟩ := readsAll_of vs ms (by simpa using hl) (fun i j e => hr (i + 1) j (by simpa using e))
    exact ⟨_, .cons hR hb⟩
theorem MTups.reads {h₀ h : Heap} {L lf : Addr} {nw nw' : List (Addr × Obj)} {vs : List Value} {ms : List Nat} {n kk : Nat} (N : News h₀ L h nw) (hl : (lf, listOf vs.toArray kk) ∈ nw) (hM : MTups nw' vs ms n) (hs : ∀ p ∈ nw', p ∈ nw) : ∃ as, Reads h (.ref lf) (.list (ms.map (tupD n))) as := by
  obtain ⟨as, hr⟩ := readsAll_of (h := h) (f := tupD n) vs ms hM.1 (fun i k e => by
    obtain ⟨R, hv, hT⟩ := hM.2 i k e
    obtain ⟨as, hR⟩ := hT.reads N hs
    exact ⟨_, as, hv, hR⟩)
  exact ⟨_, reads_list_at (N.get hl) rfl rfl (by simpa [PySem.W.listOf] using hr)⟩
theorem tup_lay (n k : Nat) : (tupD n k).canLay0 = true ∧ (tupD n k).depth ≤ 2 := by
  simp [tupD, PyData.canLay0, PyData.canLayAll0, PyData.depth, PyData.depthAll]
theorem tups_lay (n : Nat) : ∀ ms : List Nat, PyData.canLayAll0 (ms.map (tupD n)) = true ∧ PyData.depthAll (ms.map (tupD n)) ≤ 2
  | [] => by simp [PyData.canLayAll0, PyData.depthAll]
  | k :: ms => by
    have h1 := tup_lay n k
    have h2 := tups_lay n ms
    simp only [List.map_cons, PyData.canLayAll0, PyData.depthAll, h1.1, h2.1, Bool.and_self, true_and]
    have a := h1.2
    have b := h2.2
    omega
theorem tups_shaped (n : Nat) (ms : List Nat) : SeqAt.shaped (.list (ms.map (tupD n))) = true := by
  have h := tups_lay n ms
  have h2 := h.2
  simp only [SeqAt.shaped, PyData.canLay0, PyData.depth, h.1, Bool.true_and]
  exact decide_eq_true (by omega)
theorem tup_shaped (n k : Nat) : SeqAt.shaped (tupD n k) = true := by
  have h := tup_lay n k
  have h2 := h.2
  simp only [SeqAt.shaped, h.1, Bool.true_and]
  exact decide_eq_true (by omega)
theorem tup_eqv (n k : Nat) : PyData.eqv (tupD n k) (tupD n k) = true := by
  simp [tupD, PyData.eqv, PyData.eqvAll]
theorem tups_eqv (n : Nat) : ∀ ms : List Nat, PyData.eqvAll (ms.map (tupD n)) (ms.map (tupD n)) = true
  | [] => by simp [PyData.eqvAll]
  | k :: ms => by simp [PyData.eqvAll, tup_eqv, tups_eqv n ms]
theorem strs_lay : ∀ (ps : List (List Nat)), (∀ q ∈ ps, ∀ c ∈ q, c < 0x110000) → PyData.canLayAll0 (StrD ps) = true ∧ PyData.depthAll (StrD ps) = 0
  | [], _ => by simp [StrD, PyData.canLayAll0, PyData.depthAll]
  | q :: ps, h => by
    have h2 := strs_lay ps (fun x hx => h x (List.mem_cons_of_mem _ hx))
    have h1 : PyData.strOk (S q) = true := by
      simp only [PyData.strOk, S, List.all_toArray', List.all_eq_true, decide_eq_true_eq]
      exact fun c hc => h q List.mem_cons_self c hc
    simp only [StrD, List.map_cons, PyData.canLayAll0, PyData.canLay0, h1, PyData.depthAll, PyData.depth, Bool.true_and]
    exact ⟨h2.1, by have := h2.2; simp only [StrD] at this; rw [this]; rfl⟩
theorem strs_shaped (ps : List (List Nat)) (h : ∀ q ∈ ps, ∀ c ∈ q, c < 0x110000) : SeqAt.shaped (.list (StrD ps)) = true := by
  have h := strs_lay ps h
  simp only [SeqAt.shaped, PyData.canLay0, PyData.depth, h.1, h.2, Bool.true_and]
  rfl
theorem strs_eqv : ∀ ps : List (List Nat), PyData.eqvAll (StrD ps) (StrD ps) = true
  | [] => by simp [StrD, PyData.eqvAll]
  | k :: ps => by
    have := strs_eqv ps
    simp only [StrD, List.map_cons, PyData.eqvAll, PyData.eqv, beq_self_eq_true, Bool.true_and]
    exact this
theorem parts_chars (n : Nat) (l ms : List Nat) (h : ∀ c ∈ l, c < 0x110000) : ∀ q ∈ parts n l ms, ∀ c ∈ q, c < 0x110000 := by
  have sub : ∀ (b k : Nat), ∀ c ∈ (l.drop b).take k, c < 0x110000 := fun b k c hc => h c (List.mem_of_mem_drop (List.mem_of_mem_take hc))
  have key : ∀ (ms : List Nat) (b : Nat), ∀ q ∈ cuts n l b ms, ∀ c ∈ q, c < 0x110000 := by
    intro ms
    induction ms with
    | nil => intro b q hq; simp [cuts] at hq
    | cons k ms ih =>
      intro b q hq
      simp only [cuts, List.mem_cons] at hq
      rcases hq with rfl | hq
      · exact sub _ _
      · exact ih _ q hq
  intro q hq
  rcases List.mem_append.mp hq with hq | hq
  · exact key _ _ q hq
  · rw [List.mem_singleton.mp hq]; exact fun c hc => h c (List.mem_of_mem_drop hc)
end
section
theorem join_cons (sep x : Str) (r : List Str) (h : r ≠ []) : Str.join sep (x :: r) = x ++ sep ++ Str.join sep r := by
  cases r with
  | nil => exact absurd rfl h
  | cons y r => rfl
theorem app_empty (x y : Str) : x ++ Str.ofString "" ++ y = x ++ y := by
  rw [show Str.ofString "" = S [] by decide +kernel]
  show (⟨x.cps ++ [].toArray ++ y.cps⟩ : Str) = ⟨x.cps ++ y.cps⟩
  simp
theorem put_join_aux (n : Nat) (l pc t : List Nat) : ∀ (b : Nat) (ms : List Nat), Str.join (Str.ofString "") ((ins n l pc b ms ++ [t]).map S) = Str.join (S pc) ((cuts n l b ms ++ [t]).map S)
  | b, [] => rfl
  | b, k :: ms => by
    have ih := put_join_aux n l pc t (k + n) ms
    have h1 : (ins n l pc (k + n) ms ++ [t]).map S ≠ [] := by simp
    have h2 : (cuts n l (k + n) ms ++ [t]).map S ≠ [] := by simp
    simp only [ins, cuts, List.cons_append, List.map_cons]
    rw [join_cons _ _ _ (by simp), join_cons _ (S pc) _ h1, join_cons _ _ _ h2, ih, app_empty, app_empty]
    show (⟨_ ++ (_ ++ _)⟩ : Str) = ⟨_ ++ _ ++ _⟩
    rw [Array.append_assoc]
theorem put_join (n : Nat) (l pc ms : List Nat) : putS n l pc ms = Txt.join (S pc) ((parts n l ms).map S) := by
  unfold putS parts
  show Builtin.Str.glued _ _ = Builtin.Str.glued _ _
  rw [StrLaws.glued_eq_join, StrLaws.glued_eq_join]
  exact put_join_aux n l pc _ 0 ms
/-- one sign put in another's place -/
def rep (c d k : Nat) : Nat := if k = c then d else k
theorem rep_free (c d : Nat) (l : List Nat) (h : c ∉ l) : l.map (rep c d) = l := by
  induction l with
  | nil => rfl
  | cons k r ih =>
    rw [List.map_cons, ih (fun m => h (List.mem_cons_of_mem _ m))]
    unfold rep
    rw [if_neg (by rintro rfl; exact h List.mem_cons_self)]
theorem rep_join (c d : Nat) : ∀ ps : List Str, (∀ p ∈ ps, c ∉ p.cps.toList) → (Str.join ⟨#[c]⟩ ps).cps.toList.map (rep c d) = (Str.join ⟨#[d]⟩ ps).cps.toList
  | [], _ => rfl
  | [p], h => rep_free c d _ (h p (List.mem_singleton.mpr rfl))
  | p :: q :: r, h => by
    have ih := rep_join c d (q :: r) fun a ha => h a (List.mem_cons_of_mem _ ha)
    show (p ++ ⟨#[c]⟩ ++ Str.join ⟨#[c]⟩ (q :: r)).cps.toList.map (rep c d) = (p ++ ⟨#[d]⟩ ++ Str.join ⟨#[d]⟩ (q :: r)).cps.toList
    simp only [Str.cps_append, Array.toList_append, List.map_append]
    rw [ih, rep_free c d _ (h p List.mem_cons_self)]
    simp [rep]
theorem replace_map (l : List Nat) (c d : Nat) : Txt.replace (S l) ⟨#[c]⟩ ⟨#[d]⟩ = S (l.map (rep c d)) := by
  have h : (Txt.replace (S l) ⟨#[c]⟩ ⟨#[d]⟩).cps.toList = l.map (rep c d) := by
    rw [StrLaws.replace_one, ← rep_join c d _ (StrLaws.split_free (S l) c), StrLaws.join_split]
    rfl
  rw [← S_of (Txt.replace (S l) ⟨#[c]⟩ ⟨#[d]⟩), h]
/-- the great letters -/
def cap (k : Nat) : Nat := if k = 97 then 65 else if k = 98 then 66 else k
theorem great_match {W l : List Nat} (hW : ∀ c ∈ W, c = 97 ∨ c = 98) (hl : ∀ c ∈ l, c = 97 ∨ c = 98 ∨ c = 45) (j : Nat) : MatchAt false W l j ↔ MatchAt true (W.map cap) (l.map (rep 97 65)) j := by
  have key : ∀ c e : Nat, (c = 97 ∨ c = 98) → (e = 97 ∨ e = 98 ∨ e = 45) → eqc false c e = eqc true (cap c) (rep 97 65 e) := by
    rintro c e (rfl | rfl) (rfl | rfl | rfl) <;> decide
  constructor
  · intro h i c' hc'
    rw [List.getElem?_map, Option.map_eq_some_iff] at hc'
    obtain ⟨c, hc, rfl⟩ := hc'
    obtain ⟨e, he, hq⟩ := h i c hc
    exact ⟨rep 97 65 e, by rw [List.getElem?_map, he]; rfl, by rw [← key c e (hW c (List.mem_of_getElem? hc)) (hl e (List.mem_of_getElem? he))]; exact hq⟩
  · intro h i c hc
    obtain ⟨e', he', hq⟩ := h i (cap c) (by rw [List.getElem?_map, hc]; rfl)
    rw [List.getElem?_map, Option.map_eq_some_iff] at he'
    obtain ⟨e, he, rfl⟩ := he'
    exact ⟨e, he, by rw [key c e (hW c (List.mem_of_getElem? hc)) (hl e (List.mem_of_getElem? he))]; exact hq⟩
theorem no_small {W l : List Nat} (hW : 97 ∈ W) (j : Nat) : ¬ MatchAt false W (l.map (rep 97 65)) j := by
  intro h
  obtain ⟨i, hi⟩ := List.mem_iff_getElem?.mp hW
  obtain ⟨e', he', hq⟩ := h i 97 hi
  rw [List.getElem?_map, Option.map_eq_some_iff] at he'
  obtain ⟨e, he, rfl⟩ := he'
  simp only [eqc, rep, Bool.false_and, Bool.or_false, beq_iff_eq] at hq
  split at hq <;> omega
theorem cap_let {W : List Nat} (hW : ∀ c ∈ W, c = 97 ∨ c = 98) : ∀ c ∈ W.map cap, Let c := by
  intro c hc
  obtain ⟨b, hb, rfl⟩ := List.mem_map.mp hc
  rcases hW b hb with rfl | rfl
  · exact .inr (.inr (.inl rfl))
  · exact .inr (.inr (.inr rfl))
theorem cap_fold {W : List Nat} (hW : ∀ c ∈ W, c = 97 ∨ c = 98) : ∀ c ∈ W.map cap, true = true → Fold c := by
  intro c hc _
  obtain ⟨b, hb, rfl⟩ := List.mem_map.mp hc
  rcases hW b hb with rfl | rfl
  · exact .inl (by decide)
  · exact .inl (by decide)
theorem rep_fold {l : List Nat} (hl : ∀ c ∈ l, c = 97 ∨ c = 98 ∨ c = 45) : ∀ c ∈ l.map (rep 97 65), true = true → Fold c := by
  intro c hc _
  obtain ⟨b, hb, rfl⟩ := List.mem_map.mp hc
  rcases hl b hb with rfl | rfl | rfl
  · exact .inl (by decide)
  · exact .inr (by decide)
  · exact .inl (by decide)
theorem step2 (n : Nat) (hn : n ≤ 6) : Builtin.Range.small 0 ((n : Int) + 1) 2 = true ∧ Builtin.Range.rangeSize 0 ((n : Int) + 1) 2 = ((n / 2 + 1 : Nat) : Int) := by
  have : n = 0 ∨ n = 1 ∨ n = 2 ∨ n = 3 ∨ n = 4 ∨ n = 5 ∨ n = 6 := by omega
  rcases this with rfl | rfl | rfl | rfl | rfl | rfl | rfl <;> exact ⟨by decide +kernel, by decide +kernel⟩
theorem FR.yes {W l : List Nat} {st k : Nat} {r : Int} (h : FR W l st r) (h1 : st ≤ k) (h2 : k ≤ l.length) (hM : MatchAt false W l k) (hn : ∀ j, st ≤ j → j < k → ¬ MatchAt false W l j) : r = (k : Nat) := by
  rcases h with ⟨k', rfl, a1, a2, a3, a4⟩ | ⟨_, h⟩
  · rcases Nat.lt_trichotomy k k' with h | h | h
    · exact absurd hM (a4 _ h1 h)
    · rw [h]
    · exact absurd a3 (hn _ a1 h)
  · exact absurd hM (h _ h1 h2)
theorem FR.no {W l : List Nat} {st : Nat} {r : Int} (h : FR W l st r) (hn : ∀ j, st ≤ j → j ≤ l.length → ¬ MatchAt false W l j) : r = -1 := by
  rcases h with ⟨k', rfl, a1, a2, a3, a4⟩ | ⟨h, _⟩
  · exact absurd a3 (hn _ a1 (by omega))
  · exact h
end
section
theorem menuW (i : Int) (h0 : 0 ≤ i) (h1 : i < 6) : ∃ W, [Str.ofString "a", Str.ofString "b", Str.ofString "aa", Str.ofString "ab", Str.ofString "aba", Str.ofString "ba"].getD i.toNat Str.empty = S W ∧ 0 < W.length ∧ W.length ≤ 3 ∧ (∀ c ∈ W, c = 97 ∨ c = 98) ∧ (i ≠ 1 → 97 ∈ W) ∧ Txt.upper (S W) = S (W.map cap) := by
  have : i = 0 ∨ i = 1 ∨ i = 2 ∨ i = 3 ∨ i = 4 ∨ i = 5 := by omega
  rcases this with rfl | rfl | rfl | rfl | rfl | rfl
  · exact ⟨[97], by decide +kernel, by decide, by decide, by decide, by decide, by decide +kernel⟩
  · exact ⟨[98], by decide +kernel, by decide, by decide, by decide, by decide, by decide +kernel⟩
  · exact ⟨[97, 97], by decide +kernel, by decide, by decide, by decide, by decide, by decide +kernel⟩
  · exact ⟨[97, 98], by decide +kernel, by decide, by decide, by decide, by decide, by decide +kernel⟩
  · exact ⟨[97, 98, 97], by decide +kernel, by decide, by decide, by decide, by decide, by decide +kernel⟩
  · exact ⟨[98, 97], by decide +kernel, by decide, by decide, by decide, by decide, by decide +kernel⟩
theorem join_list {prog : Program} {w : World} {A : Around} {E : Value → Shared → Prop} {s : Shared} {env : Env} {e : PySem.Expr} {h₀ : Heap} {L : Addr} {m : Str → Option Value} {nw : List (Addr × Obj)} {Q : Value → Shared → Prop} (F : Fr h₀ L s.heap m) (N : News h₀ L s.heap nw) (D : List PyData)
  (h1 : wpAny (model prog w) A (eval e env) (fun v s' => ∃ lq qs kq h' tk', v = .ref lq ∧ s' = { s with heap := h', toks := tk' } ∧ CarriedAll qs D ∧ Fr h₀ L h' m ∧ News h₀ L h' ((lq, listOf qs.toArray kq) :: nw)) E s)
  (h2 : ∀ lq qs kq h' tk', CarriedAll qs D → Fr h₀ L h' m → News h₀ L h' ((lq, listOf qs.toArray kq) :: nw) → Q (.ref lq) { s with heap := h', toks := tk' }) : wpAny (model prog w) A (eval e env) Q E s :=
  wpAny_mono h1 (by rintro v s' ⟨lq, qs, kq, h', tk', rfl, rfl, hC, F', N'⟩; exact h2 lq qs kq h' tk' hC F' N') (fun _ _ e => e)
theorem parts_nil (n : Nat) : parts n [] [] = [[]] := rfl
theorem Done.nil {W ms : List Nat} (hW : 0 < W.length) (h : Done false W [] ms) : ms = [] := h.none fun j hM => by
  have := hM.fits hW
  simp only [List.length_nil] at this
  omega
end
section
theorem law_end {s₀ s₁ s' : Shared} {ns : List Int} {m : Str → Option Value} {L : Addr} {b : Bool} (F : Fr s₁.heap L s'.heap m) (hg : s₁.gens = #[]) (hb : b = true) (hos : s'.os = s₁.os) (hgs : s'.gens = s₁.gens) : GoodW PySem.Challenge.rw_sa0383_01.row.claim (classAt s₀.heap) (ExcName.means s₀.heap) [ofPy (PyData.list (List.map PyData.int ns))] s₁ (.ok (.ret (.bool b))) s' := by
  subst hb
  refine ⟨.inl ⟨.bool true, .bool true, [], rfl, ?_, .bool true, ?_, fun _ => ⟨List.Pairwise.nil, fun _ h => nomatch h⟩⟩, F.keep, hos, by rw [hgs]; exact hg⟩
  · exact raisesW_false (by wrow_none_raised)
  · wrow_post
end
section

theorem four_cells {ns : List Int} {ws : List Value} (h : IntsAre ws (List.map (fun k' => if k' < 0 then -k' else k') (List.take 4 ns) ++ List.drop ((List.take 4 ns).length : Int).toNat [255, 4, 2, 1])) :
    ∃ a0 a1 a2 a3 t0 t1 t2 t3, ws = [.int a0 t0, .int a1 t1, .int a2 t2, .int a3 t3] ∧ 0 ≤ a0 ∧ 0 ≤ a1 ∧ 0 ≤ a2 ∧ 0 ≤ a3 := by
  have key : ∃ a0 a1 a2 a3 : Int, List.map (fun k' : Int => if k' < 0 then -k' else k') (List.take 4 ns) ++ List.drop ((List.take 4 ns).length : Int).toNat [255, 4, 2, 1] = [a0, a1, a2, a3] ∧ 0 ≤ a0 ∧ 0 ≤ a1 ∧ 0 ≤ a2 ∧ 0 ≤ a3 := by
    have ab : ∀ k : Int, 0 ≤ (if k < 0 then -k else k) := fun k => by split <;> omega
    rcases ns with _ | ⟨a, _ | ⟨b, _ | ⟨c, _ | ⟨d, r⟩⟩⟩⟩
    · exact ⟨255, 4, 2, 1, rfl, by decide, by decide, by decide, by decide⟩
    · exact ⟨_, 4, 2, 1, rfl, ab a, by decide, by decide, by decide⟩
    · exact ⟨_, _, 2, 1, rfl, ab a, ab b, by decide, by decide⟩
    · exact ⟨_, _, _, 1, rfl, ab a, ab b, ab c, by decide⟩
    · exact ⟨_, _, _, _, rfl, ab a, ab b, ab c, ab d⟩
  obtain ⟨a0, a1, a2, a3, e, h0, h1, h2, h3⟩ := key
  rw [e] at h
  cases h with
  | cons _ t0 h => cases h with
    | cons _ t1 h => cases h with
      | cons _ t2 h => cases h with
        | cons _ t3 h => cases h with
          | nil => exact ⟨a0, a1, a2, a3, t0, t1, t2, t3, rfl, h0, h1, h2, h3⟩
def Txt3 (l : List Nat) : Prop := ∀ c ∈ l, c = 97 ∨ c = 98 ∨ c = 45
theorem S_app (l l' : List Nat) : S l ++ S l' = S (l ++ l') := by
  show (⟨l.toArray ++ l'.toArray⟩ : Str) = ⟨(l ++ l').toArray⟩
  simp

theorem nmN {h₀ h : Heap} {L d : Addr} {o : Obj} {r : List (Addr × Obj)} (N : News h₀ L h ((d, o) :: r)) : ∃ c, c = d ∧ News h₀ L h ((c, o) :: r) := ⟨d, rfl, N⟩
theorem fmod_pow3 (a : Int) : 0 ≤ a.fmod (3 ^ Int.toNat 6) ∧ a.fmod (3 ^ Int.toNat 6) < 3 ^ (6 - ([] : List Nat).length) := by
  rw [show (3 : Int) ^ Int.toNat 6 = 729 by decide, show (3 : Int) ^ (6 - ([] : List Nat).length) = 729 by decide, Int.fmod_eq_emod_of_nonneg _ (by decide)]
  omega

theorem fmod3 (r : Int) : r.fmod 3 = 0 ∨ r.fmod 3 = 1 ∨ r.fmod 3 = 2 := by
  rw [Int.fmod_eq_emod_of_nonneg _ (by decide)]; omega
theorem item3 (r : Int) : ∃ c, Txt.item (Str.ofString "ab-") (r.fmod 3) = S [c] ∧ (c = 97 ∨ c = 98 ∨ c = 45) := by
  rcases fmod3 r with h | h | h <;> rw [h]
  · exact ⟨97, by decide +kernel, .inl rfl⟩
  · exact ⟨98, by decide +kernel, .inr (.inl rfl)⟩
  · exact ⟨45, by decide +kernel, .inr (.inr rfl)⟩
theorem pow_turn {r : Int} {n : Nat} (h0 : 0 < r) (h1 : r < 3 ^ (6 - n)) (hn : n ≤ 6) : n + 1 ≤ 6 ∧ 0 ≤ r.fdiv 3 ∧ r.fdiv 3 < 3 ^ (6 - (n + 1)) ∧ (r.fdiv 3).toNat < r.toNat := by
  have hn5 : n ≤ 5 := by
    by_cases h : n = 6
    · subst h
      simp at h1
      omega
    · omega
  rw [show 6 - n = (6 - (n + 1)) + 1 by omega, Int.pow_succ] at h1
  rw [Int.fdiv_eq_ediv_of_nonneg _ (by decide)]
  generalize (3 : Int) ^ (6 - (n + 1)) = q at h1 ⊢
  omega

theorem StrsOf : ∀ (l : List (Str × Tok)), StrsAre (l.map fun p => Value.str p.1 p.2) (l.map (·.1))
  | [] => .nil
  | p :: r => .cons p.1 p.2 (StrsOf r)
theorem fmodn (a : Int) (n : Int) (h : 0 < n) : 0 ≤ a.fmod n ∧ a.fmod n < n := by
  rw [Int.fmod_eq_emod_of_nonneg _ (by omega)]
  exact ⟨Int.emod_nonneg _ (by omega), Int.emod_lt_of_pos _ h⟩
theorem menuP (i : Int) (h0 : 0 ≤ i) (h1 : i < 4) : ∃ W, [Str.ofString "", Str.ofString "x", Str.ofString "aa", Str.ofString "$&"].getD i.toNat Str.empty = S W ∧ W.length ≤ 3 := by
  have : i = 0 ∨ i = 1 ∨ i = 2 ∨ i = 3 := by omega
  rcases this with rfl | rfl | rfl | rfl
  · exact ⟨[], by decide +kernel, by decide⟩
  · exact ⟨[120], by decide +kernel, by decide⟩
  · exact ⟨[97, 97], by decide +kernel, by decide⟩
  · exact ⟨[36, 38], by decide +kernel, by decide⟩
theorem menuF (i : Int) (h0 : 0 ≤ i) (h1 : i < 2) : ∃ y, [Str.ofString "g", Str.ofString "gm"].getD i.toNat Str.empty = y ∧ (y = Str.ofString "g" ∨ y = Str.ofString "gm" ∨ y = Str.ofString "gi") ∧ y.length ≤ 10 ∧ (!(Builtin.Str.occurrences y (Str.ofString "i") 0 y.length 1).isEmpty) = false := by
  have : i = 0 ∨ i = 1 := by omega
  rcases this with rfl | rfl
  · exact ⟨_, rfl, .inl rfl, by decide +kernel, by decide +kernel⟩
  · exact ⟨_, rfl, .inr (.inl rfl), by decide +kernel, by decide +kernel⟩

theorem item_menu {prog : Program} {w : World} {A : Around} {E : Value → Shared → Prop} {s : Shared} {value slice : PySem.Expr} {l : Addr} {vs : List Value} {ws : List Str} {x : Str} {i : Int} {u : Tok} {Q : Value → Shared → Prop} (hl : s.heap.IsList l vs.toArray) (hw : StrsAre vs ws) (h0 : 0 ≤ i) (h1 : i < (ws.length : Int)) (hfit : i < 2 ^ 63) (e : ws.getD i.toNat Str.empty = x) (h : ∀ t', Q (.str x t') s)
    (hs : subscripted slice false (.ref l) (.int i u) = operate [.ref l, .int i u] (getItem (.ref l) (.int i u)) := by with_unfolding_all rfl) :
    wpAny (model prog w) A (subscriptTail value slice (.ref l) (.int i u)) Q E s :=
  KTb.item_list hl hw h0 h1 hfit (fun t' _ => by rw [e]; exact h t') hs

theorem lim_of {w : World} {h₀ h : Heap} {L x d : Addr} {k1 k2 k3 k4 t1 t2 t3 t4 : Tok} {r : List (Addr × Obj)} {T : Addr × Obj} (N : News h₀ L h (T :: (x, instObj 250 d) :: (d, dictOf [⟨PyData.keyHash w.params (Str.ofString "depth"), .str (Str.ofString "depth") k1, .int 40 t1⟩, ⟨PyData.keyHash w.params (Str.ofString "frames"), .str (Str.ofString "frames") k2, .int 200 t2⟩, ⟨PyData.keyHash w.params (Str.ofString "steps"), .str (Str.ofString "steps") k3, .int 1000000000 t3⟩, ⟨PyData.keyHash w.params (Str.ofString "text"), .str (Str.ofString "text") k4, .int 1000000 t4⟩] 4) :: r)) :
    ∃ lm nw, lm = x ∧ LimIn w nw lm ∧ (∀ p ∈ r, p ∈ nw) ∧ News h₀ L h nw :=
  ⟨x, _, rfl, ⟨d, k1, k2, k3, k4, t1, t2, t3, t4, List.mem_cons_self, List.mem_cons_of_mem _ List.mem_cons_self⟩, fun p hp => List.mem_cons_of_mem _ (List.mem_cons_of_mem _ hp), cb_drop N (fun p hp => List.mem_cons_of_mem _ hp)⟩

theorem newsC {h₀ h : Heap} {L a b c : Addr} {oa ob oc : Obj} {r : List (Addr × Obj)} (N : News h₀ L h ((a, oa) :: (b, ob) :: (c, oc) :: r)) : ∃ a' b', a' = a ∧ b' = b ∧ News h₀ L h ((c, oc) :: (a', oa) :: (b', ob) :: r) := ⟨a, b, rfl, rfl, fun p hp => N p (by
  simp only [List.mem_cons] at hp ⊢
  rcases hp with h | h | h | h
  · exact .inr (.inr (.inl h))
  · exact .inl h
  · exact .inr (.inl h)
  · exact .inr (.inr (.inr h)))⟩

theorem rep_flat {v : Value} : ∀ (n : Nat), (List.replicate n [v]).flatten = List.replicate n v
  | 0 => rfl
  | n + 1 => by simp [List.replicate_succ, rep_flat n]

theorem parts_small (n : Nat) (l ms : List Nat) (B : Nat) (hl : l.length ≤ B) : ∀ x ∈ parts n l ms, (S x).length ≤ B := by
  have key : ∀ (ms : List Nat) (b : Nat), ∀ q ∈ cuts n l b ms, q.length ≤ B := by
    intro ms
    induction ms with
    | nil => intro b q hq; simp [cuts] at hq
    | cons k ms ih =>
      intro b q hq
      simp only [cuts, List.mem_cons] at hq
      rcases hq with rfl | hq
      · simp only [List.length_take, List.length_drop]; omega
      · exact ih _ q hq
  intro q hq
  rw [S_length]
  rcases List.mem_append.mp hq with hq | hq
  · exact key _ _ q hq
  · rw [List.mem_singleton.mp hq]; simp only [List.length_drop]; omega
theorem parts_length (n : Nat) (l ms : List Nat) : (parts n l ms).length = ms.length + 1 := by
  simp [parts, cuts_length]

theorem one_fits {v : Value} : [v].length ≤ sizeLine := by
  rw [sizeLine_eq]; simp

-- the head's lemma (wellSaid = true -> the walk -> row.Holds): as_aux_lemma in hd left it; its name's last part is the library's
local macro_rules | `(tactic| walk_at "HEAD-LEMMA") => `(tactic| (rename (OpenRow.wellSaid _ = true) => hsaid; refine $(Lean.mkIdent (`Mine.hd ++ Lean.Name.mkSimple ("_" ++ "proof_1_973"))) hsaid ?_; clear hsaid))
theorem lawT : PySem.Challenge.rw_sa0383_01.Holds := by
  w_on
  o_law
  walk_at "HEAD-LEMMA"
  k_go0
  all_goals try k_fold
  rename (Shared.gens _ = #[]) => hgens
  (repeat ((fail_if_success (with_reducible show wpAny _ _ (subscriptTail (Expr.List _ _) _ _ _) _ _ _)); first | (k_unfold; (try dsimp only)) | ((with_reducible show wpAny _ _ (exec (Stmt.For (Expr.Name _ _) (Expr.Call _ _ _ _) _ _ _) _) _ _ _); (k_here; (rename Fr _ _ _ _ => lF'); (with_unfolding_all refine' For_turns lF' ?_; k_whole))) | ((with_reducible show wpAny _ _ (call (Value.builtin "len") _) _ _ _); (k_here; (with_reducible show wpAny _ _ (call (Value.builtin "len") [Value.ref _]) _ _ _); k_dflt (refine' kst_len ?zzk1 ?zzk2 ?zzk3 ?zzk4 ?_; (case zzk1 => k_asm); (case zzk2 => k_mem); (case zzk3 => first | assumption | exact rfl); (case zzk4 => ((try simp only [List.length_append, List.length_cons, List.length_nil]); omega)); k_whole))) | ((with_reducible show wpAny _ _ (call (Value.builtin "list.append") _) _ _ _); (k_here; (with_reducible show wpAny _ _ (call (Value.builtin _) [Value.ref _, _]) _ _ _); k_dflt (refine' append_L ?zzk1 ?zzk2 ?zzk3 ?_ ?zzz; (case zzk1 => k_asm); (case zzk2 => k_asm); (case zzk3 => k_upd); (case zzz => size_fits); k_whole); intro h' F' N'; (try k_sweep))) | walk1 | (dsimp only; walk1)))
  ((k_here; (with_reducible show wpAny _ _ (subscriptTail _ (PySem.Expr.Slice _ _ none _) (Value.ref _) (Value.ref _)) _ _ _); k_dflt (refine kba_turn (value' := PySem.Expr.Name (PySem.Str.ofString "w") ⟨0, 0, 0, 0⟩) (fun _ => rfl) ?_); k_dflt (refine' kmk_slice_ints ?zzF ?zzN ?zzl ?zzp ?zzq ?zzi ?zzm ?zzc ?_ ?zzs ?zzt ?zzz; (case zzF => k_asm); (case zzN => k_asm); (case zzl => kmk_list); (case zzp => kmk_part); (case zzq => kmk_part); (case zzi => exact (.cons _ _ (.cons _ _ (.cons _ _ (.cons _ _ .nil))))); (case zzm => exact kmk_from (.cons _ _ (.cons _ _ (.cons _ _ (.cons _ _ .nil)))) (by omega)); (case zzc => exact rfl); (case zzs => with_unfolding_all rfl); (case zzt => kmk_pure); (case zzz => kmk_size)); intro D' ws' h' F' N' l1 hI' hC' hL'; (try k_lt l1); (try k_sweep)))
  (repeat ((fail_if_success (with_reducible show wpAny _ _ (exec (Stmt.Assign [Expr.Tuple _ _ _] _ _) _) _ _ _)); first | (k_unfold; (try dsimp only)) | ((with_reducible show wpAny _ _ (exec (Stmt.For (Expr.Name _ _) (Expr.Call _ _ _ _) _ _ _) _) _ _ _); (k_here; (rename Fr _ _ _ _ => lF'); (with_unfolding_all refine' For_turns lF' ?_; k_whole))) | ((with_reducible show wpAny _ _ (call (Value.builtin "len") _) _ _ _); (k_here; (with_reducible show wpAny _ _ (call (Value.builtin "len") [Value.ref _]) _ _ _); k_dflt (refine' kst_len ?zzk1 ?zzk2 ?zzk3 ?zzk4 ?_; (case zzk1 => k_asm); (case zzk2 => k_mem); (case zzk3 => first | assumption | exact rfl); (case zzk4 => ((try simp only [List.length_append, List.length_cons, List.length_nil]); omega)); k_whole))) | ((with_reducible show wpAny _ _ (call (Value.builtin "list.append") _) _ _ _); (k_here; (with_reducible show wpAny _ _ (call (Value.builtin _) [Value.ref _, _]) _ _ _); k_dflt (refine' append_L ?zzk1 ?zzk2 ?zzk3 ?_ ?zzz; (case zzk1 => k_asm); (case zzk2 => k_asm); (case zzk3 => k_upd); (case zzz => size_fits); k_whole); intro h' F' N'; (try k_sweep))) | walk1 | (dsimp only; walk1)))
  rename News _ _ _ _ => N1; rename Fr _ _ _ _ => F1
  obtain ⟨a0, a1, a2, a3, c0, c1, c2, c3, hws, ha0, ha1, ha2, ha3⟩ := four_cells ‹IntsAre _ (List.map _ _ ++ List.drop _ _)›
  rw [hws] at N1
  have N2 := cb_drop (news := [_]) N1 (List.forall_mem_cons.mpr ⟨List.mem_cons_self, List.forall_mem_nil _⟩)
  clear N1
  obtain ⟨lc, rfl, N3⟩ := nmN N2
  clear N2
  (repeat ((fail_if_success (with_reducible show wpAny _ _ (exec (Stmt.While _ _ _ _) _) _ _ _)); first | (k_unfold; (try dsimp only)) | ((with_reducible show wpAny _ _ (exec (Stmt.For (Expr.Name _ _) (Expr.Call _ _ _ _) _ _ _) _) _ _ _); (k_here; (rename Fr _ _ _ _ => lF'); (with_unfolding_all refine' For_turns lF' ?_; k_whole))) | ((with_reducible show wpAny _ _ (call (Value.builtin "len") _) _ _ _); (k_here; (with_reducible show wpAny _ _ (call (Value.builtin "len") [Value.ref _]) _ _ _); k_dflt (refine' kst_len ?zzk1 ?zzk2 ?zzk3 ?zzk4 ?_; (case zzk1 => k_asm); (case zzk2 => k_mem); (case zzk3 => first | assumption | exact rfl); (case zzk4 => ((try simp only [List.length_append, List.length_cons, List.length_nil]); omega)); k_whole))) | ((with_reducible show wpAny _ _ (call (Value.builtin "list.append") _) _ _ _); (k_here; (with_reducible show wpAny _ _ (call (Value.builtin _) [Value.ref _, _]) _ _ _); k_dflt (refine' append_L ?zzk1 ?zzk2 ?zzk3 ?_ ?zzz; (case zzk1 => k_asm); (case zzk2 => k_asm); (case zzk3 => k_upd); (case zzz => size_fits); k_whole); intro h' F' N'; (try k_sweep))) | walk1 | (dsimp only; walk1)))
  rename News _ _ _ _ => N4; rename Fr _ _ _ _ => F4
  have N5 := cb_drop N4 (fun p hp => List.mem_cons_of_mem _ hp)
  clear N4
  have hfm := fmod_pow3 a0
  refine while_inv (n₀ := (a0.fmod (3 ^ Int.toNat 6)).toNat) [Str.ofString "text", Str.ofString "rest"] (fun nn u nw => ∃ (l : List Nat) (x : Str) (r : Int) (tx tr : Tok), nw = [(lc, listOf [Value.int a0 c0, Value.int a1 c1, Value.int a2 c2, Value.int a3 c3].toArray 0)] ∧ x = S l ∧ Txt3 l ∧ l.length ≤ 6 ∧ 0 ≤ r ∧ r < 3 ^ (6 - l.length) ∧ nn = r.toNat ∧ u (Str.ofString "text") = some (.str x tx) ∧ u (Str.ofString "rest") = some (.int r tr)) F4 N5 ⟨[], Str.ofString "", a0.fmod (3 ^ Int.toNat 6), _, _, rfl, by decide +kernel, (fun c h => nomatch h), by decide, hfm.1, hfm.2, rfl, rfl, rfl⟩ ?_
  rintro nn u nw h tk ⟨l, x, r, tx, tr, rfl, hx, hT3, hl, hr0, hr1, hnn, hu1, hu2⟩ F2 N2
  have F3 := fr_put (x := Str.ofString "text") (v := .str x tx) (fr_put (x := Str.ofString "rest") (v := .int r tr) F2 (by simp [upd, hu2])) (by show ite _ _ _ = _; rw [if_neg (by decide +kernel)]; simp [upd, hu1])
  clear F2
  subst hx
  have hSl := S_length l
  have hxl : (S l).length ≤ 10 := by omega

  iterate 10 (first | (k_unfold; (try dsimp only)) | ((with_reducible show wpAny _ _ (exec (Stmt.For (Expr.Name _ _) (Expr.Call _ _ _ _) _ _ _) _) _ _ _); (k_here; (rename Fr _ _ _ _ => lF'); (with_unfolding_all refine' For_turns lF' ?_; k_whole))) | ((with_reducible show wpAny _ _ (call (Value.builtin "len") _) _ _ _); (k_here; (with_reducible show wpAny _ _ (call (Value.builtin "len") [Value.ref _]) _ _ _); k_dflt (refine' kst_len ?zzk1 ?zzk2 ?zzk3 ?zzk4 ?_; (case zzk1 => k_asm); (case zzk2 => k_mem); (case zzk3 => first | assumption | exact rfl); (case zzk4 => ((try simp only [List.length_append, List.length_cons, List.length_nil]); omega)); k_whole))) | ((with_reducible show wpAny _ _ (call (Value.builtin "list.append") _) _ _ _); (k_here; (with_reducible show wpAny _ _ (call (Value.builtin _) [Value.ref _, _]) _ _ _); k_dflt (refine' append_L ?zzk1 ?zzk2 ?zzk3 ?_ ?zzz; (case zzk1 => k_asm); (case zzk2 => k_asm); (case zzk3 => k_upd); (case zzz => size_fits); k_whole); intro h' F' N'; (try k_sweep))) | walk1 | (dsimp only; walk1))
  · (repeat' (first | (k_unfold; (try dsimp only)) | ((with_reducible show wpAny _ _ (exec (Stmt.For (Expr.Name _ _) (Expr.Call _ _ _ _) _ _ _) _) _ _ _); (k_here; (rename Fr _ _ _ _ => lF'); (with_unfolding_all refine' For_turns lF' ?_; k_whole))) | ((with_reducible show wpAny _ _ (call (Value.builtin "len") _) _ _ _); (k_here; (with_reducible show wpAny _ _ (call (Value.builtin "len") [Value.ref _]) _ _ _); k_dflt (refine' kst_len ?zzk1 ?zzk2 ?zzk3 ?zzk4 ?_; (case zzk1 => k_asm); (case zzk2 => k_mem); (case zzk3 => first | assumption | exact rfl); (case zzk4 => ((try simp only [List.length_append, List.length_cons, List.length_nil]); omega)); k_whole))) | ((with_reducible show wpAny _ _ (call (Value.builtin "list.append") _) _ _ _); (k_here; (with_reducible show wpAny _ _ (call (Value.builtin _) [Value.ref _, _]) _ _ _); k_dflt (refine' append_L ?zzk1 ?zzk2 ?zzk3 ?_ ?zzz; (case zzk1 => k_asm); (case zzk2 => k_asm); (case zzk3 => k_upd); (case zzz => size_fits); k_whole); intro h' F' N'; (try k_sweep))) | (k_end; kc_close) | walk1 | (dsimp only; walk1) | (leave1; walk_say "STEP leave1"; (try dsimp only)) | fail "no step"))
    obtain ⟨c, hc, hc3⟩ := item3 r
    obtain ⟨b1, b2, b3, b4⟩ := pow_turn ‹0 < r› hr1 hl
    rename News _ _ _ _ => N9; rename Fr _ _ _ _ => F9
    refine ⟨_, _, _, _, (r.fdiv 3).toNat, rfl, F9, cb_drop N9 (fun p hp => List.mem_cons_of_mem _ hp), by omega, by ((intro y hy; have hc := hy; (simp only [List.contains_cons, List.contains_nil, Bool.or_false, Bool.or_eq_false_iff, beq_eq_false_iff_ne, ne_eq] at hc); (simp [upd, hy, hc]))), l ++ [c], S l ++ Txt.item (Str.ofString "ab-") (r.fmod 3), r.fdiv 3, _, _, rfl, by rw [hc, S_app], ?_, by rw [List.length_append]; exact b1, b2, by rw [List.length_append]; exact b3, rfl, by first | rfl | (simp; done) | (show ite _ _ _ = _; rw [if_neg (by decide +kernel)]; simp; done) | (show ite _ _ _ = _; rw [if_neg (by decide +kernel)]; show ite _ _ _ = _; rw [if_neg (by decide +kernel)]; simp; done), by first | rfl | (simp; done) | (show ite _ _ _ = _; rw [if_neg (by decide +kernel)]; simp; done) | (show ite _ _ _ = _; rw [if_neg (by decide +kernel)]; show ite _ _ _ = _; rw [if_neg (by decide +kernel)]; simp; done)⟩
    intro y hy
    rcases List.mem_append.mp hy with hy | hy
    · exact hT3 y hy
    · rw [List.mem_singleton.mp hy]; exact hc3
  clear hr1 hnn hu1 hu2
  (repeat ((fail_if_success (with_reducible show wpAny _ _ (subscriptTail (Expr.List _ _) _ _ (Value.int _ _)) _ _ _)); first | (k_unfold; (try dsimp only)) | ((with_reducible show wpAny _ _ (exec (Stmt.For (Expr.Name _ _) (Expr.Call _ _ _ _) _ _ _) _) _ _ _); (k_here; (rename Fr _ _ _ _ => lF'); (with_unfolding_all refine' For_turns lF' ?_; k_whole))) | ((with_reducible show wpAny _ _ (call (Value.builtin "len") _) _ _ _); (k_here; (with_reducible show wpAny _ _ (call (Value.builtin "len") [Value.ref _]) _ _ _); k_dflt (refine' kst_len ?zzk1 ?zzk2 ?zzk3 ?zzk4 ?_; (case zzk1 => k_asm); (case zzk2 => k_mem); (case zzk3 => first | assumption | exact rfl); (case zzk4 => ((try simp only [List.length_append, List.length_cons, List.length_nil]); omega)); k_whole))) | ((with_reducible show wpAny _ _ (call (Value.builtin "list.append") _) _ _ _); (k_here; (with_reducible show wpAny _ _ (call (Value.builtin _) [Value.ref _, _]) _ _ _); k_dflt (refine' append_L ?zzk1 ?zzk2 ?zzk3 ?_ ?zzz; (case zzk1 => k_asm); (case zzk2 => k_asm); (case zzk3 => k_upd); (case zzz => size_fits); k_whole); intro h' F' N'; (try k_sweep))) | walk1 | (dsimp only; walk1)))

  obtain ⟨hi0, hi1⟩ := fmodn a1 6 (by decide)
  obtain ⟨W, hWe, hW0, hW3, hWc, hW97, hUp⟩ := menuW _ hi0 hi1
  rename News _ _ _ _ => N9
  refine item_menu (News.isList N9 List.mem_cons_self) (.cons _ _ (.cons _ _ (.cons _ _ (.cons _ _ (.cons _ _ (.cons _ _ .nil)))))) hi0 hi1 (show (a1.fmod 6) < 2 ^ 63 by omega) hWe (fun tW => ?_)
  (repeat ((fail_if_success (with_reducible show wpAny _ _ (subscriptTail (Expr.List _ _) _ _ (Value.int _ _)) _ _ _)); first | (k_unfold; (try dsimp only)) | ((with_reducible show wpAny _ _ (exec (Stmt.For (Expr.Name _ _) (Expr.Call _ _ _ _) _ _ _) _) _ _ _); (k_here; (rename Fr _ _ _ _ => lF'); (with_unfolding_all refine' For_turns lF' ?_; k_whole))) | ((with_reducible show wpAny _ _ (call (Value.builtin "len") _) _ _ _); (k_here; (with_reducible show wpAny _ _ (call (Value.builtin "len") [Value.ref _]) _ _ _); k_dflt (refine' kst_len ?zzk1 ?zzk2 ?zzk3 ?zzk4 ?_; (case zzk1 => k_asm); (case zzk2 => k_mem); (case zzk3 => first | assumption | exact rfl); (case zzk4 => ((try simp only [List.length_append, List.length_cons, List.length_nil]); omega)); k_whole))) | ((with_reducible show wpAny _ _ (call (Value.builtin "list.append") _) _ _ _); (k_here; (with_reducible show wpAny _ _ (call (Value.builtin _) [Value.ref _, _]) _ _ _); k_dflt (refine' append_L ?zzk1 ?zzk2 ?zzk3 ?_ ?zzz; (case zzk1 => k_asm); (case zzk2 => k_asm); (case zzk3 => k_upd); (case zzz => size_fits); k_whole); intro h' F' N'; (try k_sweep))) | walk1 | (dsimp only; walk1)))
  obtain ⟨hj0, hj1⟩ := fmodn a2 4 (by decide)
  obtain ⟨pc, hpe, hp3⟩ := menuP _ hj0 hj1
  rename News _ _ _ _ => N9
  refine item_menu (News.isList N9 List.mem_cons_self) (.cons _ _ (.cons _ _ (.cons _ _ (.cons _ _ .nil)))) hj0 hj1 (show (a2.fmod 4) < 2 ^ 63 by omega) hpe (fun tP => ?_)
  (repeat ((fail_if_success (with_reducible show wpAny _ _ (subscriptTail (Expr.List _ _) _ _ (Value.int _ _)) _ _ _)); first | (k_unfold; (try dsimp only)) | ((with_reducible show wpAny _ _ (exec (Stmt.For (Expr.Name _ _) (Expr.Call _ _ _ _) _ _ _) _) _ _ _); (k_here; (rename Fr _ _ _ _ => lF'); (with_unfolding_all refine' For_turns lF' ?_; k_whole))) | ((with_reducible show wpAny _ _ (call (Value.builtin "len") _) _ _ _); (k_here; (with_reducible show wpAny _ _ (call (Value.builtin "len") [Value.ref _]) _ _ _); k_dflt (refine' kst_len ?zzk1 ?zzk2 ?zzk3 ?zzk4 ?_; (case zzk1 => k_asm); (case zzk2 => k_mem); (case zzk3 => first | assumption | exact rfl); (case zzk4 => ((try simp only [List.length_append, List.length_cons, List.length_nil]); omega)); k_whole))) | ((with_reducible show wpAny _ _ (call (Value.builtin "list.append") _) _ _ _); (k_here; (with_reducible show wpAny _ _ (call (Value.builtin _) [Value.ref _, _]) _ _ _); k_dflt (refine' append_L ?zzk1 ?zzk2 ?zzk3 ?_ ?zzz; (case zzk1 => k_asm); (case zzk2 => k_asm); (case zzk3 => k_upd); (case zzz => size_fits); k_whole); intro h' F' N'; (try k_sweep))) | walk1 | (dsimp only; walk1)))
  obtain ⟨hk0, hk1⟩ := fmodn a3 2 (by decide)
  obtain ⟨fl, hfe, hfl, hfl10, hic⟩ := menuF _ hk0 hk1
  rename News _ _ _ _ => N9
  refine item_menu (News.isList N9 List.mem_cons_self) (.cons _ _ (.cons _ _ .nil)) hk0 hk1 (show (a3.fmod 2) < 2 ^ 63 by omega) hfe (fun tF => ?_)
  clear ha0 ha1 ha2 ha3 hi0 hi1 hj0 hj1 hk0 hk1 hfm hWe hpe hfe
  (repeat (rename (@LT.lt Nat _ _ _ ∧ _) => hq; clear hq))

  (repeat ((fail_if_success (with_reducible show wpAny _ _ (call (Value.ref 647) _) _ _ _)); first | (k_unfold; (try dsimp only)) | ((with_reducible show wpAny _ _ (exec (Stmt.For (Expr.Name _ _) (Expr.Call _ _ _ _) _ _ _) _) _ _ _); (k_here; (rename Fr _ _ _ _ => lF'); (with_unfolding_all refine' For_turns lF' ?_; k_whole))) | ((with_reducible show wpAny _ _ (call (Value.builtin "len") _) _ _ _); (k_here; (with_reducible show wpAny _ _ (call (Value.builtin "len") [Value.ref _]) _ _ _); k_dflt (refine' kst_len ?zzk1 ?zzk2 ?zzk3 ?zzk4 ?_; (case zzk1 => k_asm); (case zzk2 => k_mem); (case zzk3 => first | assumption | exact rfl); (case zzk4 => ((try simp only [List.length_append, List.length_cons, List.length_nil]); omega)); k_whole))) | ((with_reducible show wpAny _ _ (call (Value.builtin "list.append") _) _ _ _); (k_here; (with_reducible show wpAny _ _ (call (Value.builtin _) [Value.ref _, _]) _ _ _); k_dflt (refine' append_L ?zzk1 ?zzk2 ?zzk3 ?_ ?zzz; (case zzk1 => k_asm); (case zzk2 => k_asm); (case zzk3 => k_upd); (case zzz => size_fits); k_whole); intro h' F' N'; (try k_sweep))) | walk1 | (dsimp only; walk1)))
  rename News _ _ _ _ => N9
  have N10 := cb_drop (news := [(lc, _)]) N9 (List.forall_mem_cons.mpr ⟨by k_mem, List.forall_mem_nil _⟩)
  clear N9
  have hWl : ∀ c ∈ W, Let c := fun c hc => (hWc c hc).elim .inl (fun h => .inr (.inl h))
  (((with_reducible show wpAny _ _ (call (Value.ref 647) _) _ _ _); k_dflt (refine' read_ok ?zzk1 ?zzk2 ?zzk3 ?zzk4 ?zzk5 ?zzkK ?zzkd ?zzku _ ?zzkl ?zzkL _ _ _ ?zzkx ?_; (case zzk1 => k_asm); (case zzk2 => k_asm); (case zzk3 => k_asm); (case zzk4 => k_asm); (case zzk5 => k_asm); (case zzkK => first | exact rfl | assumption); (case zzkd => ktr_room); (case zzku => ktr_units); (case zzkl => omega); (case zzkL => assumption); (case zzkx => assumption); skip)))
  intro P rest1 hp1 tk1 hP hs1 F10 N11
  have hlc1 := hs1 _ List.mem_cons_self
  (try dsimp only); (try k_fold)
  (repeat ((fail_if_success (with_reducible show wpAny _ _ (call (Value.ref 668) _) _ _ _)); first | (k_unfold; (try dsimp only)) | ((with_reducible show wpAny _ _ (exec (Stmt.For (Expr.Name _ _) (Expr.Call _ _ _ _) _ _ _) _) _ _ _); (k_here; (rename Fr _ _ _ _ => lF'); (with_unfolding_all refine' For_turns lF' ?_; k_whole))) | ((with_reducible show wpAny _ _ (call (Value.builtin "len") _) _ _ _); (k_here; (with_reducible show wpAny _ _ (call (Value.builtin "len") [Value.ref _]) _ _ _); k_dflt (refine' kst_len ?zzk1 ?zzk2 ?zzk3 ?zzk4 ?_; (case zzk1 => k_asm); (case zzk2 => k_mem); (case zzk3 => first | assumption | exact rfl); (case zzk4 => ((try simp only [List.length_append, List.length_cons, List.length_nil]); omega)); k_whole))) | ((with_reducible show wpAny _ _ (call (Value.builtin "list.append") _) _ _ _); (k_here; (with_reducible show wpAny _ _ (call (Value.builtin _) [Value.ref _, _]) _ _ _); k_dflt (refine' append_L ?zzk1 ?zzk2 ?zzk3 ?_ ?zzz; (case zzk1 => k_asm); (case zzk2 => k_asm); (case zzk3 => k_upd); (case zzz => size_fits); k_whole); intro h' F' N'; (try k_sweep))) | walk1 | (dsimp only; walk1)))

  rename News _ _ _ _ => N12
  obtain ⟨lm, nw1, rfl, hlm, hs2, N14⟩ := lim_of N12
  clear N12
  have hP2 := hP.mono hs2
  have hlc2 := hs2 _ hlc1
  clear hP hlc1 hs1
  (((with_reducible show wpAny _ _ (call (Value.ref 668) _) _ _ _); k_dflt (refine' every_ok ?zzk1 ?zzk2 ?zzk3 ?zzk4 ?zzk5 ?zzkK ?zzkd ?zzku _ _ _ _ _ _ false ?zzka ?zzkb ?zzkc ?zzkw ?zzkf ?zzkg ?zzkh ?zzki ?zzkj ?_; (case zzk1 => k_asm); (case zzk2 => k_asm); (case zzk3 => k_asm); (case zzk4 => k_asm); (case zzk5 => k_asm); (case zzkK => first | exact rfl | assumption); (case zzkd => ktr_room); (case zzku => ktr_units); (case zzkg => assumption); (case zzkh => assumption); (case zzka => assumption); (case zzkb => assumption); (case zzkc => assumption); (case zzkw => assumption); (case zzkf => omega); (case zzki => exact (fun _ _ h => nomatch h)); (case zzkj => exact (fun _ _ h => nomatch h)); skip)))
  intro lf vs ms kf rest2 hp2 tk2 hD hMs hs3 hne F11 N15
  (try dsimp only); (try k_fold)
  have hP3 := hP2.mono hs3
  have hlm3 := hlm.mono hs3
  have hlc3 := hs3 _ hlc2
  clear hP2 hlm hlc2 hs2 hs3
  have hz : (0 : Int) = ((0 : Nat) : Int) := rfl
  (repeat ((fail_if_success (with_reducible show wpAny _ _ (call (Value.ref 715) _) _ _ _)); first | (k_unfold; (try dsimp only)) | ((with_reducible show wpAny _ _ (exec (Stmt.For (Expr.Name _ _) (Expr.Call _ _ _ _) _ _ _) _) _ _ _); (k_here; (rename Fr _ _ _ _ => lF'); (with_unfolding_all refine' For_turns lF' ?_; k_whole))) | ((with_reducible show wpAny _ _ (call (Value.builtin "len") _) _ _ _); (k_here; (with_reducible show wpAny _ _ (call (Value.builtin "len") [Value.ref _]) _ _ _); k_dflt (refine' kst_len ?zzk1 ?zzk2 ?zzk3 ?zzk4 ?_; (case zzk1 => k_asm); (case zzk2 => k_mem); (case zzk3 => first | assumption | exact rfl); (case zzk4 => ((try simp only [List.length_append, List.length_cons, List.length_nil]); omega)); k_whole))) | ((with_reducible show wpAny _ _ (call (Value.builtin "list.append") _) _ _ _); (k_here; (with_reducible show wpAny _ _ (call (Value.builtin _) [Value.ref _, _]) _ _ _); k_dflt (refine' append_L ?zzk1 ?zzk2 ?zzk3 ?_ ?zzz; (case zzk1 => k_asm); (case zzk2 => k_asm); (case zzk3 => k_upd); (case zzz => size_fits); k_whole); intro h' F' N'; (try k_sweep))) | walk1 | (dsimp only; walk1)))
  (((with_reducible show wpAny _ _ (call (Value.ref 715) _) _ _ _); k_dflt (refine' find_from_1 ?zzk1 ?zzk2 ?zzk3 ?zzk4 ?zzk5 ?zzkK ?zzkd ?zzku _ _ _ _ _ _ _ ?zzkI ?zzka ?zzkw ?zzkb ?zzkc ?_; (case zzk1 => k_asm); (case zzk2 => k_asm); (case zzk3 => k_asm); (case zzk4 => k_asm); (case zzk5 => k_asm); (case zzkK => first | exact rfl | assumption); (case zzkd => ktr_room); (case zzku => ktr_units); (case zzkI => assumption); (case zzka => assumption); (case zzkw => assumption); (case zzkb => omega); (case zzkc => omega); skip)))
  intro r0 tr0 hp3 tk3 hr0' F12 N16
  (try dsimp only); (try k_fold)
  (repeat ((fail_if_success (with_reducible show wpAny _ _ (exec (Stmt.While _ _ _ _) _) _ _ _)); first | (k_unfold; (try dsimp only)) | ((with_reducible show wpAny _ _ (exec (Stmt.For (Expr.Name _ _) (Expr.Call _ _ _ _) _ _ _) _) _ _ _); (k_here; (rename Fr _ _ _ _ => lF'); (with_unfolding_all refine' For_turns lF' ?_; k_whole))) | ((with_reducible show wpAny _ _ (call (Value.builtin "len") _) _ _ _); (k_here; (with_reducible show wpAny _ _ (call (Value.builtin "len") [Value.ref _]) _ _ _); k_dflt (refine' kst_len ?zzk1 ?zzk2 ?zzk3 ?zzk4 ?_; (case zzk1 => k_asm); (case zzk2 => k_mem); (case zzk3 => first | assumption | exact rfl); (case zzk4 => ((try simp only [List.length_append, List.length_cons, List.length_nil]); omega)); k_whole))) | ((with_reducible show wpAny _ _ (call (Value.builtin "list.append") _) _ _ _); (k_here; (with_reducible show wpAny _ _ (call (Value.builtin _) [Value.ref _, _]) _ _ _); k_dflt (refine' append_L ?zzk1 ?zzk2 ?zzk3 ?_ ?zzz; (case zzk1 => k_asm); (case zzk2 => k_asm); (case zzk3 => k_upd); (case zzz => size_fits); k_whole); intro h' F' N'; (try k_sweep))) | walk1 | (dsimp only; walk1)))

  rename News _ _ _ _ => N17; rename Fr _ _ _ _ => F17
  have N18 := cb_drop N17 (fun p hp => List.mem_cons_of_mem _ hp)
  clear N17
  obtain ⟨ld, rfl, N19⟩ := nmN N18
  clear N18
  have lt1 := ‹lf < ld ∧ AllLt ld rest2›
  have hlt2 : ∀ p ∈ (lf, listOf vs.toArray kf) :: rest2, p.1 ≠ ld := List.forall_mem_cons.mpr ⟨Nat.ne_of_lt lt1.1, fun p hp => Nat.ne_of_lt (ktn_ltOf lt1.2 p hp)⟩
  have hSW := S_length W
  have hWl10 : (S W).length ≤ 10 := by omega
  refine while_inv (n₀ := l.length + 1) [Str.ofString "at"] (fun nn u nw => ∃ (ds : List Value) (ms2 : List Nat) (st kk : Nat) (r : Int) (ta : Tok) (rest : List (Addr × Obj)), nw = (ld, listOf ds.toArray kk) :: rest ∧ (∀ p ∈ (lf, listOf vs.toArray kf) :: rest2, p ∈ rest) ∧ (∀ p ∈ rest, p.1 ≠ ld) ∧ Acc false W l ms2 st ∧ MTups rest ds ms2 W.length ∧ FR W l st r ∧ nn + st = l.length + 1 ∧ st ≤ l.length ∧ u (Str.ofString "at") = some (.int r ta)) F17 N19 ⟨[], [], 0, 0, r0, _, _, rfl, fun p hp => hp, hlt2, .nil, ⟨rfl, fun i c e => by simp at e⟩, hr0', rfl, Nat.zero_le _, rfl⟩ ?_
  rintro nn u2 nw h tk ⟨ds, ms2, st, kk, r2, ta, rest3, rfl, hs4, hne3, hA, hDs, hFR, hnn, hst, hu1⟩ F2 N2
  have F3 := fr_put (x := Str.ofString "at") (v := .int r2 ta) F2 (by simp [upd, hu1])
  clear F2
  have hdl : ds.length ≤ 10 := by
    have h1 := hA.bound hW0
    have h2 := hDs.1
    omega
  rcases hFR with ⟨k, rfl, hk1, hk2, hkM, hkn⟩ | ⟨rfl, hn⟩
  · have hsI : (k : Int) + ((S W).length : Nat) = ((k + W.length : Nat) : Int) := by omega
    (repeat ((fail_if_success (with_reducible show wpAny _ _ (call (Value.ref 715) _) _ _ _)); first | (k_unfold; (try dsimp only)) | ((with_reducible show wpAny _ _ (exec (Stmt.For (Expr.Name _ _) (Expr.Call _ _ _ _) _ _ _) _) _ _ _); (k_here; (rename Fr _ _ _ _ => lF'); (with_unfolding_all refine' For_turns lF' ?_; k_whole))) | ((with_reducible show wpAny _ _ (call (Value.builtin "len") _) _ _ _); (k_here; (with_reducible show wpAny _ _ (call (Value.builtin "len") [Value.ref _]) _ _ _); k_dflt (refine' kst_len ?zzk1 ?zzk2 ?zzk3 ?zzk4 ?_; (case zzk1 => k_asm); (case zzk2 => k_mem); (case zzk3 => first | assumption | exact rfl); (case zzk4 => ((try simp only [List.length_append, List.length_cons, List.length_nil]); omega)); k_whole))) | ((with_reducible show wpAny _ _ (call (Value.builtin "list.append") _) _ _ _); (k_here; (with_reducible show wpAny _ _ (call (Value.builtin _) [Value.ref _, _]) _ _ _); k_dflt (refine' append_L ?zzk1 ?zzk2 ?zzk3 ?_ ?zzz; (case zzk1 => k_asm); (case zzk2 => k_asm); (case zzk3 => k_upd); (case zzz => size_fits); k_whole); intro h' F' N'; (try k_sweep))) | walk1 | (dsimp only; walk1)))
    (((with_reducible show wpAny _ _ (call (Value.ref 715) _) _ _ _); k_dflt (refine' find_from_1 ?zzk1 ?zzk2 ?zzk3 ?zzk4 ?zzk5 ?zzkK ?zzkd ?zzku _ _ _ _ _ _ _ ?zzkI ?zzka ?zzkw ?zzkb ?zzkc ?_; (case zzk1 => k_asm); (case zzk2 => k_asm); (case zzk3 => k_asm); (case zzk4 => k_asm); (case zzk5 => k_asm); (case zzkK => first | exact rfl | assumption); (case zzkd => ktr_room); (case zzku => ktr_units); (case zzkI => assumption); (case zzka => assumption); (case zzkw => assumption); (case zzkb => omega); (case zzkc => omega); skip)))
    intro r3 tr3 hp4 tk4 hr3 F18 N20
    (try dsimp only); (try k_fold)
    (repeat' (first | (k_unfold; (try dsimp only)) | ((with_reducible show wpAny _ _ (exec (Stmt.For (Expr.Name _ _) (Expr.Call _ _ _ _) _ _ _) _) _ _ _); (k_here; (rename Fr _ _ _ _ => lF'); (with_unfolding_all refine' For_turns lF' ?_; k_whole))) | ((with_reducible show wpAny _ _ (call (Value.builtin "len") _) _ _ _); (k_here; (with_reducible show wpAny _ _ (call (Value.builtin "len") [Value.ref _]) _ _ _); k_dflt (refine' kst_len ?zzk1 ?zzk2 ?zzk3 ?zzk4 ?_; (case zzk1 => k_asm); (case zzk2 => k_mem); (case zzk3 => first | assumption | exact rfl); (case zzk4 => ((try simp only [List.length_append, List.length_cons, List.length_nil]); omega)); k_whole))) | ((with_reducible show wpAny _ _ (call (Value.builtin "list.append") _) _ _ _); (k_here; (with_reducible show wpAny _ _ (call (Value.builtin _) [Value.ref _, _]) _ _ _); k_dflt (refine' append_L ?zzk1 ?zzk2 ?zzk3 ?_ ?zzz; (case zzk1 => k_asm); (case zzk2 => k_asm); (case zzk3 => k_upd); (case zzz => size_fits); k_whole); intro h' F' N'; (try k_sweep))) | (k_end; kc_close) | walk1 | (dsimp only; walk1) | (leave1; walk_say "STEP leave1"; (try dsimp only)) | fail "no step"))
    rename News _ _ _ _ => N21; rename Fr _ _ _ _ => F21
    rw [hSW] at N21
    obtain ⟨R, g, rfl, rfl, N22⟩ := newsC N21
    have l1 := ‹ld < g ∧ AllLt g rest3›
    have l2 := ‹g < R ∧ ld < R ∧ AllLt R rest3›
    refine ⟨_, _, _, _, l.length + 1 - (k + W.length), rfl, F21, N22, by omega, by ((intro y hy; have hc := hy; (simp only [List.contains_cons, List.contains_nil, Bool.or_false, Bool.or_eq_false_iff, beq_eq_false_iff_ne, ne_eq] at hc); (simp [upd, hy, hc]))), ds ++ [.ref R], ms2 ++ [k], k + W.length, _, r3, _, _, rfl, fun p hp => List.mem_cons_of_mem _ (List.mem_cons_of_mem _ (hs4 p hp)), List.forall_mem_cons.mpr ⟨Nat.ne_of_gt l2.2.1, List.forall_mem_cons.mpr ⟨Nat.ne_of_gt l1.1, hne3⟩⟩, .snoc hA hk1 (by omega) hkM hkn, (hDs.mono (fun p hp => List.mem_cons_of_mem _ (List.mem_cons_of_mem _ hp))).snoc ⟨g, _, _, _, (fun _ h => nomatch h), List.mem_cons_self, List.mem_cons_of_mem _ List.mem_cons_self⟩, hr3, Nat.sub_add_cancel (by omega), hk2, by first | rfl | (simp; done) | (show ite _ _ _ = _; rw [if_neg (by decide +kernel)]; simp; done)⟩
  · obtain rfl : ms = ms2 := hD.one ⟨st, hA, hn⟩
    (repeat ((fail_if_success (with_reducible show wpAny _ _ (compareOp CmpOp.NotEq (Value.ref _) (Value.ref _)) _ _ _)); first | (k_unfold; (try dsimp only)) | ((with_reducible show wpAny _ _ (exec (Stmt.For (Expr.Name _ _) (Expr.Call _ _ _ _) _ _ _) _) _ _ _); (k_here; (rename Fr _ _ _ _ => lF'); (with_unfolding_all refine' For_turns lF' ?_; k_whole))) | ((with_reducible show wpAny _ _ (call (Value.builtin "len") _) _ _ _); (k_here; (with_reducible show wpAny _ _ (call (Value.builtin "len") [Value.ref _]) _ _ _); k_dflt (refine' kst_len ?zzk1 ?zzk2 ?zzk3 ?zzk4 ?_; (case zzk1 => k_asm); (case zzk2 => k_mem); (case zzk3 => first | assumption | exact rfl); (case zzk4 => ((try simp only [List.length_append, List.length_cons, List.length_nil]); omega)); k_whole))) | ((with_reducible show wpAny _ _ (call (Value.builtin "list.append") _) _ _ _); (k_here; (with_reducible show wpAny _ _ (call (Value.builtin _) [Value.ref _, _]) _ _ _); k_dflt (refine' append_L ?zzk1 ?zzk2 ?zzk3 ?_ ?zzz; (case zzk1 => k_asm); (case zzk2 => k_asm); (case zzk3 => k_upd); (case zzz => size_fits); k_whole); intro h' F' N'; (try k_sweep))) | walk1 | (dsimp only; walk1)))
    rename News _ _ _ _ => N23
    obtain ⟨as1, R1⟩ := MTups.reads N23 (List.mem_cons_of_mem _ (hs4 _ List.mem_cons_self)) hMs (fun p hp => List.mem_cons_of_mem _ (hs4 _ (List.mem_cons_of_mem _ hp)))
    obtain ⟨as2, R2⟩ := MTups.reads N23 List.mem_cons_self hDs (fun p hp => List.mem_cons_of_mem _ hp)
    refine ne_dataH R1 R2 (tups_shaped _ _) (tups_shaped _ _) (by ke_room) ?_
    simp only [PyData.eqv, tups_eqv, Bool.not_true]
    clear hlt2 R1 R2
    have hs5 : ∀ p ∈ rest2, p ∈ rest3 := fun p hp => hs4 p (List.mem_cons_of_mem _ hp)
    have hlf3 := hs4 _ List.mem_cons_self
    have hMs3 := hMs.mono hs5
    have hP4 := hP3.mono hs5
    have hlm4 := hlm3.mono hs5
    have hlc4 := hs5 _ hlc3
    clear hP3 hlm3 hlc3 hMs hs4 hs5
    have hml : ms.length ≤ 6 := by
      have h1 := hA.bound hW0
      omega
    have hvl : vs.length = ms.length := hMs3.1
    have hv10 : vs.length ≤ 10 := by omega
    have hpl := hA.places hW0
    (repeat ((fail_if_success (with_reducible show wpAny _ _ (binaryOp Operator.Mult (Value.ref _) (Value.int _ _)) _ _ _)); first | (k_unfold; (try dsimp only)) | ((with_reducible show wpAny _ _ (exec (Stmt.For (Expr.Name _ _) (Expr.Call _ _ _ _) _ _ _) _) _ _ _); (k_here; (rename Fr _ _ _ _ => lF'); (with_unfolding_all refine' For_turns lF' ?_; k_whole))) | ((with_reducible show wpAny _ _ (call (Value.builtin "len") _) _ _ _); (k_here; (with_reducible show wpAny _ _ (call (Value.builtin "len") [Value.ref _]) _ _ _); k_dflt (refine' kst_len ?zzk1 ?zzk2 ?zzk3 ?zzk4 ?_; (case zzk1 => k_asm); (case zzk2 => k_mem); (case zzk3 => first | assumption | exact rfl); (case zzk4 => ((try simp only [List.length_append, List.length_cons, List.length_nil]); omega)); k_whole))) | ((with_reducible show wpAny _ _ (call (Value.builtin "list.append") _) _ _ _); (k_here; (with_reducible show wpAny _ _ (call (Value.builtin _) [Value.ref _, _]) _ _ _); k_dflt (refine' append_L ?zzk1 ?zzk2 ?zzk3 ?_ ?zzz; (case zzk1 => k_asm); (case zzk2 => k_asm); (case zzk3 => k_upd); (case zzz => size_fits); k_whole); intro h' F' N'; (try k_sweep))) | walk1 | (dsimp only; walk1)))
    rename News _ _ _ _ => N24; rename Fr _ _ _ _ => F24
    refine KMa.mul (ws := List.replicate ms.length (.str (S pc) tP)) F24 N24 (News.isList N24 List.mem_cons_self) (by omega) (by omega) (by simp only [List.length_cons, List.length_nil]; omega) (by rw [Int.toNat_natCast]; exact rep_flat _) ?_
    intro D hp5 F25 N25 lD
    have hps : ∀ i, i < ms.length → ∃ t, (List.replicate ms.length (Value.str (S pc) tP))[i]? = some (.str (S pc) t) := fun i hi => ⟨_, by rw [List.getElem?_replicate, if_pos (by omega)]⟩
    have hrl : (List.replicate ms.length (Value.str (S pc) tP)).length ≤ 10 := by simp only [List.length_replicate]; omega
    (repeat ((fail_if_success (with_reducible show wpAny _ _ (call (Value.ref 694) _) _ _ _)); first | (k_unfold; (try dsimp only)) | ((with_reducible show wpAny _ _ (exec (Stmt.For (Expr.Name _ _) (Expr.Call _ _ _ _) _ _ _) _) _ _ _); (k_here; (rename Fr _ _ _ _ => lF'); (with_unfolding_all refine' For_turns lF' ?_; k_whole))) | ((with_reducible show wpAny _ _ (call (Value.builtin "len") _) _ _ _); (k_here; (with_reducible show wpAny _ _ (call (Value.builtin "len") [Value.ref _]) _ _ _); k_dflt (refine' kst_len ?zzk1 ?zzk2 ?zzk3 ?zzk4 ?_; (case zzk1 => k_asm); (case zzk2 => k_mem); (case zzk3 => first | assumption | exact rfl); (case zzk4 => ((try simp only [List.length_append, List.length_cons, List.length_nil]); omega)); k_whole))) | ((with_reducible show wpAny _ _ (call (Value.builtin "list.append") _) _ _ _); (k_here; (with_reducible show wpAny _ _ (call (Value.builtin _) [Value.ref _, _]) _ _ _); k_dflt (refine' append_L ?zzk1 ?zzk2 ?zzk3 ?_ ?zzz; (case zzk1 => k_asm); (case zzk2 => k_asm); (case zzk3 => k_upd); (case zzz => size_fits); k_whole); intro h' F' N'; (try k_sweep))) | walk1 | (dsimp only; walk1)))
    (((with_reducible show wpAny _ _ (call (Value.ref 694) _) _ _ _); k_dflt (refine' put_pieces_ok ?zzk1 ?zzk2 ?zzk3 ?zzk4 ?zzk5 ?zzkK ?zzkd ?zzku _ _ _ _ _ _ _ _ _ _ _ ?zzka ?zzkb ?zzkc ?zzkp ?zzke ?zzkf ?zzkg ?zzkh ?zzki ?_; (case zzk1 => k_asm); (case zzk2 => k_asm); (case zzk3 => k_asm); (case zzk4 => k_asm); (case zzk5 => k_asm); (case zzkK => first | exact rfl | assumption); (case zzkd => ktr_room); (case zzku => ktr_units); (case zzke => k_mem); (case zzkg => exact List.mem_cons_self); (case zzka => assumption); (case zzkf => exact MTups.mono (by assumption) (fun p hp => by k_mem)); (case zzkh => assumption); (case zzkb => omega); (case zzkc => assumption); (case zzkp => assumption); (case zzki => assumption); skip)))
    intro tq hp6 tk6 F26 N26
    rw [put_join]
    (try dsimp only); (try k_fold)
    (repeat ((fail_if_success (with_reducible show wpAny _ _ (call (Value.ref 722) _) _ _ _)); first | (k_unfold; (try dsimp only)) | ((with_reducible show wpAny _ _ (exec (Stmt.For (Expr.Name _ _) (Expr.Call _ _ _ _) _ _ _) _) _ _ _); (k_here; (rename Fr _ _ _ _ => lF'); (with_unfolding_all refine' For_turns lF' ?_; k_whole))) | ((with_reducible show wpAny _ _ (call (Value.builtin "len") _) _ _ _); (k_here; (with_reducible show wpAny _ _ (call (Value.builtin "len") [Value.ref _]) _ _ _); k_dflt (refine' kst_len ?zzk1 ?zzk2 ?zzk3 ?zzk4 ?_; (case zzk1 => k_asm); (case zzk2 => k_mem); (case zzk3 => first | assumption | exact rfl); (case zzk4 => ((try simp only [List.length_append, List.length_cons, List.length_nil]); omega)); k_whole))) | ((with_reducible show wpAny _ _ (call (Value.builtin "list.append") _) _ _ _); (k_here; (with_reducible show wpAny _ _ (call (Value.builtin _) [Value.ref _, _]) _ _ _); k_dflt (refine' append_L ?zzk1 ?zzk2 ?zzk3 ?_ ?zzz; (case zzk1 => k_asm); (case zzk2 => k_asm); (case zzk3 => k_upd); (case zzz => size_fits); k_whole); intro h' F' N'; (try k_sweep))) | walk1 | (dsimp only; walk1)))
    rename News _ _ _ _ => N27
    have N28 := cb_drop (news := (ld, listOf ds.toArray kk) :: rest3) N27 (fun p hp => List.mem_cons_of_mem _ (List.mem_cons_of_mem _ hp))
    clear N27 N25 N24
    (((with_reducible show wpAny _ _ (call (Value.ref 722) _) _ _ _); k_dflt (refine' split_text_ok ?zzk1 ?zzk2 ?zzk3 ?zzk4 ?zzk5 ?zzkK ?zzkd ?zzku _ _ _ _ _ ?zzka ?zzkb ?zzkc ?_; (case zzk1 => k_asm); (case zzk2 => k_asm); (case zzk3 => k_asm); (case zzk4 => k_asm); (case zzk5 => k_asm); (case zzkK => first | exact rfl | assumption); (case zzkd => ktr_room); (case zzku => ktr_units); (case zzka => assumption); (case zzkb => assumption); (case zzkc => omega); skip)))
    intro lq qs ms5 kq hp7 tk7 hD5 hC5 lq1 F28 N29
    (try dsimp only); (try k_fold)
    obtain rfl : ms = ms5 := hD.one hD5
    (repeat ((fail_if_success (with_reducible show wpAny _ _ (call (Value.builtin "str.join") _) _ _ _)); first | (k_unfold; (try dsimp only)) | ((with_reducible show wpAny _ _ (exec (Stmt.For (Expr.Name _ _) (Expr.Call _ _ _ _) _ _ _) _) _ _ _); (k_here; (rename Fr _ _ _ _ => lF'); (with_unfolding_all refine' For_turns lF' ?_; k_whole))) | ((with_reducible show wpAny _ _ (call (Value.builtin "len") _) _ _ _); (k_here; (with_reducible show wpAny _ _ (call (Value.builtin "len") [Value.ref _]) _ _ _); k_dflt (refine' kst_len ?zzk1 ?zzk2 ?zzk3 ?zzk4 ?_; (case zzk1 => k_asm); (case zzk2 => k_mem); (case zzk3 => first | assumption | exact rfl); (case zzk4 => ((try simp only [List.length_append, List.length_cons, List.length_nil]); omega)); k_whole))) | ((with_reducible show wpAny _ _ (call (Value.builtin "list.append") _) _ _ _); (k_here; (with_reducible show wpAny _ _ (call (Value.builtin _) [Value.ref _, _]) _ _ _); k_dflt (refine' append_L ?zzk1 ?zzk2 ?zzk3 ?_ ?zzz; (case zzk1 => k_asm); (case zzk2 => k_asm); (case zzk3 => k_upd); (case zzz => size_fits); k_whole); intro h' F' N'; (try k_sweep))) | walk1 | (dsimp only; walk1)))
    rename News _ _ _ _ => N30
    refine KT.join_B (l := parts W.length l ms) (g := S) 6 (News.isList N30 List.mem_cons_self) hC5 (parts_small _ _ _ _ hl) (by rw [parts_length]; omega) (by rw [S_length]; omega) ?_
    intro tj kj
    have hbne : (Txt.join (S pc) ((parts W.length l ms).map S) != Txt.join (S pc) ((parts W.length l ms).map S)) = false := by simp
    (repeat ((fail_if_success (with_reducible show wpAny _ _ (pyIter _) _ _ _)); first | (k_unfold; (try dsimp only)) | ((with_reducible show wpAny _ _ (exec (Stmt.For (Expr.Name _ _) (Expr.Call _ _ _ _) _ _ _) _) _ _ _); (k_here; (rename Fr _ _ _ _ => lF'); (with_unfolding_all refine' For_turns lF' ?_; k_whole))) | ((with_reducible show wpAny _ _ (call (Value.builtin "len") _) _ _ _); (k_here; (with_reducible show wpAny _ _ (call (Value.builtin "len") [Value.ref _]) _ _ _); k_dflt (refine' kst_len ?zzk1 ?zzk2 ?zzk3 ?zzk4 ?_; (case zzk1 => k_asm); (case zzk2 => k_mem); (case zzk3 => first | assumption | exact rfl); (case zzk4 => ((try simp only [List.length_append, List.length_cons, List.length_nil]); omega)); k_whole))) | ((with_reducible show wpAny _ _ (call (Value.builtin "list.append") _) _ _ _); (k_here; (with_reducible show wpAny _ _ (call (Value.builtin _) [Value.ref _, _]) _ _ _); k_dflt (refine' append_L ?zzk1 ?zzk2 ?zzk3 ?_ ?zzz; (case zzk1 => k_asm); (case zzk2 => k_asm); (case zzk3 => k_upd); (case zzz => size_fits); k_whole); intro h' F' N'; (try k_sweep))) | walk1 | (dsimp only; walk1)))
    rename IsRange _ _ _ _ _ _ _ _ => hR
    rename News _ _ _ _ => N31; rename Fr _ _ _ _ => F31
    have N32 := cb_drop (news := rest3) N31 (fun p hp => by k_mem)
    clear N31
    rw [hSl] at hR
    obtain ⟨hsm, hrs⟩ := step2 l.length hl
    refine turns_range (n := l.length / 2 + 1) [Str.ofString "start", Str.ofString "met", Str.ofString "at"] rfl hR hsm hrs F31 N32 (fun k _ nw => nw = rest3) rfl ?_ ?_
    · rintro i ti u5 nw h5 tk5 own hi hnw F33 N33
      obtain rfl : rest3 = nw := hnw.symm
      have hsI : (0 : Int) + (i : Nat) * 2 = ((i * 2 : Nat) : Int) := by omega
      have hi2 : i * 2 ≤ l.length := by omega
      have hP5 : PatIn _ (own ++ rest3) P W fl := hP4.mono (fun p hp => List.mem_append_right _ hp)
      have hlm5 : LimIn _ (own ++ rest3) lm := hlm4.mono (fun p hp => List.mem_append_right _ hp)
      (repeat ((fail_if_success (with_reducible show wpAny _ _ (call (Value.ref 661) _) _ _ _)); first | (k_unfold; (try dsimp only)) | ((with_reducible show wpAny _ _ (exec (Stmt.For (Expr.Name _ _) (Expr.Call _ _ _ _) _ _ _) _) _ _ _); (k_here; (rename Fr _ _ _ _ => lF'); (with_unfolding_all refine' For_turns lF' ?_; k_whole))) | ((with_reducible show wpAny _ _ (call (Value.builtin "len") _) _ _ _); (k_here; (with_reducible show wpAny _ _ (call (Value.builtin "len") [Value.ref _]) _ _ _); k_dflt (refine' kst_len ?zzk1 ?zzk2 ?zzk3 ?zzk4 ?_; (case zzk1 => k_asm); (case zzk2 => k_mem); (case zzk3 => first | assumption | exact rfl); (case zzk4 => ((try simp only [List.length_append, List.length_cons, List.length_nil]); omega)); k_whole))) | ((with_reducible show wpAny _ _ (call (Value.builtin "list.append") _) _ _ _); (k_here; (with_reducible show wpAny _ _ (call (Value.builtin _) [Value.ref _, _]) _ _ _); k_dflt (refine' append_L ?zzk1 ?zzk2 ?zzk3 ?_ ?zzz; (case zzk1 => k_asm); (case zzk2 => k_asm); (case zzk3 => k_upd); (case zzz => size_fits); k_whole); intro h' F' N'; (try k_sweep))) | walk1 | (dsimp only; walk1)))
      (with_reducible show wpAny _ _ (call (Value.ref 661) _) _ _ _)
      k_dflt (refine' find_ok ?f1 ?f2 ?f3 ?f4 ?f5 ?fK ?fd ?fu _ _ _ _ _ _ _ _ _ false ?fI ?fa ?fb ?fc ?fe ?ff ?fg ?fh ?fi ?fj ?_ ?_)
      (case f1 => k_asm)
      (case f2 => k_asm)
      (case f3 => k_asm)
      (case f4 => k_asm)
      (case f5 => k_asm)
      (case fK => first | exact rfl | assumption)
      (case fd => ktr_room)
      (case fu => ktr_units)
      (case fg => exact hP5)
      (case fI => exact hsI)
      (case fa => exact hfl10)
      (case fb => exact hic)
      (case fc => exact hl)
      (case fe => exact hi2)
      (case ff => omega)
      (case fh => exact hlm5)
      (case fi => exact (fun _ _ h => nomatch h))
      (case fj => exact (fun _ _ h => nomatch h))
      · intro R k rest4 hp8 tk8 hk1 hk2 hkM hkn hT hs6 F34 N34
        (try dsimp only); (try k_fold)
        (repeat ((fail_if_success (with_reducible show wpAny _ _ (call (Value.ref 715) _) _ _ _)); first | (k_unfold; (try dsimp only)) | ((with_reducible show wpAny _ _ (exec (Stmt.For (Expr.Name _ _) (Expr.Call _ _ _ _) _ _ _) _) _ _ _); (k_here; (rename Fr _ _ _ _ => lF'); (with_unfolding_all refine' For_turns lF' ?_; k_whole))) | ((with_reducible show wpAny _ _ (call (Value.builtin "len") _) _ _ _); (k_here; (with_reducible show wpAny _ _ (call (Value.builtin "len") [Value.ref _]) _ _ _); k_dflt (refine' kst_len ?zzk1 ?zzk2 ?zzk3 ?zzk4 ?_; (case zzk1 => k_asm); (case zzk2 => k_mem); (case zzk3 => first | assumption | exact rfl); (case zzk4 => ((try simp only [List.length_append, List.length_cons, List.length_nil]); omega)); k_whole))) | ((with_reducible show wpAny _ _ (call (Value.builtin "list.append") _) _ _ _); (k_here; (with_reducible show wpAny _ _ (call (Value.builtin _) [Value.ref _, _]) _ _ _); k_dflt (refine' append_L ?zzk1 ?zzk2 ?zzk3 ?_ ?zzz; (case zzk1 => k_asm); (case zzk2 => k_asm); (case zzk3 => k_upd); (case zzz => size_fits); k_whole); intro h' F' N'; (try k_sweep))) | walk1 | (dsimp only; walk1)))
        (((with_reducible show wpAny _ _ (call (Value.ref 715) _) _ _ _); k_dflt (refine' find_from_1 ?zzk1 ?zzk2 ?zzk3 ?zzk4 ?zzk5 ?zzkK ?zzkd ?zzku _ _ _ _ _ _ _ ?zzkI ?zzka ?zzkw ?zzkb ?zzkc ?_; (case zzk1 => k_asm); (case zzk2 => k_asm); (case zzk3 => k_asm); (case zzk4 => k_asm); (case zzk5 => k_asm); (case zzkK => first | exact rfl | assumption); (case zzkd => ktr_room); (case zzku => ktr_units); (case zzkI => assumption); (case zzka => assumption); (case zzkw => assumption); (case zzkb => omega); (case zzkc => omega); skip)))
        intro r5 tr5 hp9 tk9 hr5 F35 N35
        (try dsimp only); (try k_fold)
        obtain rfl := hr5.yes hk1 hk2 hkM hkn
        have hd1 : (false != decide ((k : Int) < 0)) = false := by
          rw [decide_eq_false (by omega)]
          rfl
        (repeat ((fail_if_success (with_reducible show wpAny _ _ (compareOp CmpOp.NotEq (Value.ref _) (Value.ref _)) _ _ _)); first | (k_unfold; (try dsimp only)) | ((with_reducible show wpAny _ _ (exec (Stmt.For (Expr.Name _ _) (Expr.Call _ _ _ _) _ _ _) _) _ _ _); (k_here; (rename Fr _ _ _ _ => lF'); (with_unfolding_all refine' For_turns lF' ?_; k_whole))) | ((with_reducible show wpAny _ _ (call (Value.builtin "len") _) _ _ _); (k_here; (with_reducible show wpAny _ _ (call (Value.builtin "len") [Value.ref _]) _ _ _); k_dflt (refine' kst_len ?zzk1 ?zzk2 ?zzk3 ?zzk4 ?_; (case zzk1 => k_asm); (case zzk2 => k_mem); (case zzk3 => first | assumption | exact rfl); (case zzk4 => ((try simp only [List.length_append, List.length_cons, List.length_nil]); omega)); k_whole))) | ((with_reducible show wpAny _ _ (call (Value.builtin "list.append") _) _ _ _); (k_here; (with_reducible show wpAny _ _ (call (Value.builtin _) [Value.ref _, _]) _ _ _); k_dflt (refine' append_L ?zzk1 ?zzk2 ?zzk3 ?_ ?zzz; (case zzk1 => k_asm); (case zzk2 => k_asm); (case zzk3 => k_upd); (case zzz => size_fits); k_whole); intro h' F' N'; (try k_sweep))) | walk1 | (dsimp only; walk1)))
        rename News _ _ _ _ => N36
        rw [hSW] at N36
        obtain ⟨as1, R1⟩ := hT.reads N36 (fun p hp => by k_mem)
        obtain ⟨as2, R2⟩ : ∃ as, Reads _ _ (tupD W.length k) as := ⟨_, reads_tuple_at (N36.get List.mem_cons_self) rfl rfl (.cons (.int _ _) (.cons (.int _ _) (.cons (reads_list_at (N36.get (List.mem_cons_of_mem _ List.mem_cons_self)) rfl rfl .nil) .nil)))⟩
        refine ne_dataH R1 R2 (tup_shaped _ _) (tup_shaped _ _) (by ke_room) ?_
        simp only [tup_eqv, Bool.not_true]
        (repeat' (first | (k_unfold; (try dsimp only)) | ((with_reducible show wpAny _ _ (exec (Stmt.For (Expr.Name _ _) (Expr.Call _ _ _ _) _ _ _) _) _ _ _); (k_here; (rename Fr _ _ _ _ => lF'); (with_unfolding_all refine' For_turns lF' ?_; k_whole))) | ((with_reducible show wpAny _ _ (call (Value.builtin "len") _) _ _ _); (k_here; (with_reducible show wpAny _ _ (call (Value.builtin "len") [Value.ref _]) _ _ _); k_dflt (refine' kst_len ?zzk1 ?zzk2 ?zzk3 ?zzk4 ?_; (case zzk1 => k_asm); (case zzk2 => k_mem); (case zzk3 => first | assumption | exact rfl); (case zzk4 => ((try simp only [List.length_append, List.length_cons, List.length_nil]); omega)); k_whole))) | ((with_reducible show wpAny _ _ (call (Value.builtin "list.append") _) _ _ _); (k_here; (with_reducible show wpAny _ _ (call (Value.builtin _) [Value.ref _, _]) _ _ _); k_dflt (refine' append_L ?zzk1 ?zzk2 ?zzk3 ?_ ?zzz; (case zzk1 => k_asm); (case zzk2 => k_asm); (case zzk3 => k_upd); (case zzz => size_fits); k_whole); intro h' F' N'; (try k_sweep))) | (k_end; kc_close) | walk1 | (dsimp only; walk1) | (leave1; walk_say "STEP leave1"; (try dsimp only)) | fail "no step"))
        rename News _ _ _ _ => N37; rename Fr _ _ _ _ => F37
        exact ⟨_, _, _, rest3, rfl, F37, (fun p hp => N37 p (by have := hs6 p hp; k_mem)), rfl, by ((intro y hy; have hc := hy; (simp only [List.contains_cons, List.contains_nil, Bool.or_false, Bool.or_eq_false_iff, beq_eq_false_iff_ne, ne_eq] at hc); (simp [upd, hy, hc]))), rfl⟩
      · intro rest4 hp8 tk8 hkn hs6 F34 N34
        (try dsimp only); (try k_fold)
        (repeat ((fail_if_success (with_reducible show wpAny _ _ (call (Value.ref 715) _) _ _ _)); first | (k_unfold; (try dsimp only)) | ((with_reducible show wpAny _ _ (exec (Stmt.For (Expr.Name _ _) (Expr.Call _ _ _ _) _ _ _) _) _ _ _); (k_here; (rename Fr _ _ _ _ => lF'); (with_unfolding_all refine' For_turns lF' ?_; k_whole))) | ((with_reducible show wpAny _ _ (call (Value.builtin "len") _) _ _ _); (k_here; (with_reducible show wpAny _ _ (call (Value.builtin "len") [Value.ref _]) _ _ _); k_dflt (refine' kst_len ?zzk1 ?zzk2 ?zzk3 ?zzk4 ?_; (case zzk1 => k_asm); (case zzk2 => k_mem); (case zzk3 => first | assumption | exact rfl); (case zzk4 => ((try simp only [List.length_append, List.length_cons, List.length_nil]); omega)); k_whole))) | ((with_reducible show wpAny _ _ (call (Value.builtin "list.append") _) _ _ _); (k_here; (with_reducible show wpAny _ _ (call (Value.builtin _) [Value.ref _, _]) _ _ _); k_dflt (refine' append_L ?zzk1 ?zzk2 ?zzk3 ?_ ?zzz; (case zzk1 => k_asm); (case zzk2 => k_asm); (case zzk3 => k_upd); (case zzz => size_fits); k_whole); intro h' F' N'; (try k_sweep))) | walk1 | (dsimp only; walk1)))
        (((with_reducible show wpAny _ _ (call (Value.ref 715) _) _ _ _); k_dflt (refine' find_from_1 ?zzk1 ?zzk2 ?zzk3 ?zzk4 ?zzk5 ?zzkK ?zzkd ?zzku _ _ _ _ _ _ _ ?zzkI ?zzka ?zzkw ?zzkb ?zzkc ?_; (case zzk1 => k_asm); (case zzk2 => k_asm); (case zzk3 => k_asm); (case zzk4 => k_asm); (case zzk5 => k_asm); (case zzkK => first | exact rfl | assumption); (case zzkd => ktr_room); (case zzku => ktr_units); (case zzkI => assumption); (case zzka => assumption); (case zzkw => assumption); (case zzkb => omega); (case zzkc => omega); skip)))
        intro r5 tr5 hp9 tk9 hr5 F35 N35
        (try dsimp only); (try k_fold)
        obtain rfl := hr5.no hkn
        have hd2 : (true != decide ((-1 : Int) < 0)) = false := by decide
        (repeat' (first | (k_unfold; (try dsimp only)) | ((with_reducible show wpAny _ _ (exec (Stmt.For (Expr.Name _ _) (Expr.Call _ _ _ _) _ _ _) _) _ _ _); (k_here; (rename Fr _ _ _ _ => lF'); (with_unfolding_all refine' For_turns lF' ?_; k_whole))) | ((with_reducible show wpAny _ _ (call (Value.builtin "len") _) _ _ _); (k_here; (with_reducible show wpAny _ _ (call (Value.builtin "len") [Value.ref _]) _ _ _); k_dflt (refine' kst_len ?zzk1 ?zzk2 ?zzk3 ?zzk4 ?_; (case zzk1 => k_asm); (case zzk2 => k_mem); (case zzk3 => first | assumption | exact rfl); (case zzk4 => ((try simp only [List.length_append, List.length_cons, List.length_nil]); omega)); k_whole))) | ((with_reducible show wpAny _ _ (call (Value.builtin "list.append") _) _ _ _); (k_here; (with_reducible show wpAny _ _ (call (Value.builtin _) [Value.ref _, _]) _ _ _); k_dflt (refine' append_L ?zzk1 ?zzk2 ?zzk3 ?_ ?zzz; (case zzk1 => k_asm); (case zzk2 => k_asm); (case zzk3 => k_upd); (case zzz => size_fits); k_whole); intro h' F' N'; (try k_sweep))) | (k_end; kc_close) | walk1 | (dsimp only; walk1) | (leave1; walk_say "STEP leave1"; (try dsimp only)) | fail "no step"))
        rename News _ _ _ _ => N37; rename Fr _ _ _ _ => F37
        exact ⟨_, _, _, rest3, rfl, F37, (fun p hp => N37 p (by have := hs6 p hp; k_mem)), rfl, by ((intro y hy; have hc := hy; (simp only [List.contains_cons, List.contains_nil, Bool.or_false, Bool.or_eq_false_iff, beq_eq_false_iff_ne, ne_eq] at hc); (simp [upd, hy, hc]))), rfl⟩
    · rintro u5 nw h5 tk5 hnw F33 N33
      obtain rfl : rest3 = nw := hnw.symm
      (repeat ((fail_if_success (with_reducible show wpAny _ _ (call (Value.ref 687) _) _ _ _)); first | (k_unfold; (try dsimp only)) | ((with_reducible show wpAny _ _ (exec (Stmt.For (Expr.Name _ _) (Expr.Call _ _ _ _) _ _ _) _) _ _ _); (k_here; (rename Fr _ _ _ _ => lF'); (with_unfolding_all refine' For_turns lF' ?_; k_whole))) | ((with_reducible show wpAny _ _ (call (Value.builtin "len") _) _ _ _); (k_here; (with_reducible show wpAny _ _ (call (Value.builtin "len") [Value.ref _]) _ _ _); k_dflt (refine' kst_len ?zzk1 ?zzk2 ?zzk3 ?zzk4 ?_; (case zzk1 => k_asm); (case zzk2 => k_mem); (case zzk3 => first | assumption | exact rfl); (case zzk4 => ((try simp only [List.length_append, List.length_cons, List.length_nil]); omega)); k_whole))) | ((with_reducible show wpAny _ _ (call (Value.builtin "list.append") _) _ _ _); (k_here; (with_reducible show wpAny _ _ (call (Value.builtin _) [Value.ref _, _]) _ _ _); k_dflt (refine' append_L ?zzk1 ?zzk2 ?zzk3 ?_ ?zzz; (case zzk1 => k_asm); (case zzk2 => k_asm); (case zzk3 => k_upd); (case zzz => size_fits); k_whole); intro h' F' N'; (try k_sweep))) | walk1 | (dsimp only; walk1)))
      (with_reducible show wpAny _ _ (call (Value.ref 687) _) _ _ _)
      k_dflt (refine' split_by_ok ?m01 ?m02 ?m03 ?m04 ?m05 ?m0K ?m0d ?m0u _ _ _ _ _ _ _ false ?m0a ?m0b ?m0c ?m0w ?m0f ?m0g ?m0h ?m0i ?m0j ?_)
      (case m01 => k_asm)
      (case m02 => k_asm)
      (case m03 => k_asm)
      (case m04 => k_asm)
      (case m05 => k_asm)
      (case m0K => first | exact rfl | assumption)
      (case m0d => ktr_room)
      (case m0u => ktr_units)
      (case m0g => exact hP4)
      (case m0h => exact hlm4)
      (case m0a => exact hfl10)
      (case m0b => exact hic)
      (case m0c => exact hl)
      (case m0w => exact hW0)
      (case m0f => omega)
      (case m0i => exact (fun _ _ h => nomatch h))
      (case m0j => exact (fun _ _ h => nomatch h))
      intro lb bs msb kb rest5 hp8 tk8 hDb hCb hs7 F35 N35
      (try dsimp only); (try k_fold)
      obtain rfl : ms = msb := hD.one hDb
      (repeat ((fail_if_success (with_reducible show wpAny _ _ (eval (Expr.IfExp _ _ _ _) _) _ _ _)); first | (k_unfold; (try dsimp only)) | ((with_reducible show wpAny _ _ (exec (Stmt.For (Expr.Name _ _) (Expr.Call _ _ _ _) _ _ _) _) _ _ _); (k_here; (rename Fr _ _ _ _ => lF'); (with_unfolding_all refine' For_turns lF' ?_; k_whole))) | ((with_reducible show wpAny _ _ (call (Value.builtin "len") _) _ _ _); (k_here; (with_reducible show wpAny _ _ (call (Value.builtin "len") [Value.ref _]) _ _ _); k_dflt (refine' kst_len ?zzk1 ?zzk2 ?zzk3 ?zzk4 ?_; (case zzk1 => k_asm); (case zzk2 => k_mem); (case zzk3 => first | assumption | exact rfl); (case zzk4 => ((try simp only [List.length_append, List.length_cons, List.length_nil]); omega)); k_whole))) | ((with_reducible show wpAny _ _ (call (Value.builtin "list.append") _) _ _ _); (k_here; (with_reducible show wpAny _ _ (call (Value.builtin _) [Value.ref _, _]) _ _ _); k_dflt (refine' append_L ?zzk1 ?zzk2 ?zzk3 ?_ ?zzz; (case zzk1 => k_asm); (case zzk2 => k_asm); (case zzk3 => k_upd); (case zzz => size_fits); k_whole); intro h' F' N'; (try k_sweep))) | walk1 | (dsimp only; walk1)))
      rename News _ _ _ _ => N36; rename Fr _ _ _ _ => F36
      refine join_list F36 N36 (StrD (parts W.length l ms)) ?_ ?_
      · by_cases h0 : l = []
        · have hle : (S l != Str.ofString "") = false := by simp only [bne, S_empty, h0, decide_true, Bool.not_true]
          (repeat ((fail_if_success (with_reducible show wpAny _ _ (newList _) _ _ _)); first | (k_unfold; (try dsimp only)) | ((with_reducible show wpAny _ _ (exec (Stmt.For (Expr.Name _ _) (Expr.Call _ _ _ _) _ _ _) _) _ _ _); (k_here; (rename Fr _ _ _ _ => lF'); (with_unfolding_all refine' For_turns lF' ?_; k_whole))) | ((with_reducible show wpAny _ _ (call (Value.builtin "len") _) _ _ _); (k_here; (with_reducible show wpAny _ _ (call (Value.builtin "len") [Value.ref _]) _ _ _); k_dflt (refine' kst_len ?zzk1 ?zzk2 ?zzk3 ?zzk4 ?_; (case zzk1 => k_asm); (case zzk2 => k_mem); (case zzk3 => first | assumption | exact rfl); (case zzk4 => ((try simp only [List.length_append, List.length_cons, List.length_nil]); omega)); k_whole))) | ((with_reducible show wpAny _ _ (call (Value.builtin "list.append") _) _ _ _); (k_here; (with_reducible show wpAny _ _ (call (Value.builtin _) [Value.ref _, _]) _ _ _); k_dflt (refine' append_L ?zzk1 ?zzk2 ?zzk3 ?_ ?zzz; (case zzk1 => k_asm); (case zzk2 => k_asm); (case zzk3 => k_upd); (case zzz => size_fits); k_whole); intro h' F' N'; (try k_sweep))) | walk1 | (dsimp only; walk1)))
          rename News _ _ _ _ => N37; rename Fr _ _ _ _ => F37
          refine newList_K F37 N37 ?_ one_fits
          intro l' h' F38 N38 l1
          refine ⟨_, _, _, _, _, rfl, rfl, ?_, F38, N38⟩
          subst h0
          obtain rfl := hD.nil hW0
          exact .cons (.str _ _) .nil
        · have hle : (S l != Str.ofString "") = true := by simp only [bne, S_empty, h0, decide_false, Bool.not_false]
          (repeat ((fail_if_success (with_reducible show wpAny _ _ (call (Value.ref 722) _) _ _ _)); first | (k_unfold; (try dsimp only)) | ((with_reducible show wpAny _ _ (exec (Stmt.For (Expr.Name _ _) (Expr.Call _ _ _ _) _ _ _) _) _ _ _); (k_here; (rename Fr _ _ _ _ => lF'); (with_unfolding_all refine' For_turns lF' ?_; k_whole))) | ((with_reducible show wpAny _ _ (call (Value.builtin "len") _) _ _ _); (k_here; (with_reducible show wpAny _ _ (call (Value.builtin "len") [Value.ref _]) _ _ _); k_dflt (refine' kst_len ?zzk1 ?zzk2 ?zzk3 ?zzk4 ?_; (case zzk1 => k_asm); (case zzk2 => k_mem); (case zzk3 => first | assumption | exact rfl); (case zzk4 => ((try simp only [List.length_append, List.length_cons, List.length_nil]); omega)); k_whole))) | ((with_reducible show wpAny _ _ (call (Value.builtin "list.append") _) _ _ _); (k_here; (with_reducible show wpAny _ _ (call (Value.builtin _) [Value.ref _, _]) _ _ _); k_dflt (refine' append_L ?zzk1 ?zzk2 ?zzk3 ?_ ?zzz; (case zzk1 => k_asm); (case zzk2 => k_asm); (case zzk3 => k_upd); (case zzz => size_fits); k_whole); intro h' F' N'; (try k_sweep))) | walk1 | (dsimp only; walk1)))
          (((with_reducible show wpAny _ _ (call (Value.ref 722) _) _ _ _); k_dflt (refine' split_text_ok ?zzk1 ?zzk2 ?zzk3 ?zzk4 ?zzk5 ?zzkK ?zzkd ?zzku _ _ _ _ _ ?zzka ?zzkb ?zzkc ?_; (case zzk1 => k_asm); (case zzk2 => k_asm); (case zzk3 => k_asm); (case zzk4 => k_asm); (case zzk5 => k_asm); (case zzkK => first | exact rfl | assumption); (case zzkd => ktr_room); (case zzku => ktr_units); (case zzka => assumption); (case zzkb => assumption); (case zzkc => omega); skip)))
          intro lq6 qs6 ms6 kq6 hp16 tk16 hD6 hC6 lq16 F37 N37
          obtain rfl : ms = ms6 := hD.one hD6
          exact ⟨_, _, _, _, _, rfl, rfl, hC6, F37, N37⟩
      · intro lq6 qs6 kq6 hp16 tk16 hC6 F37 N37
        (try dsimp only); (try k_fold)
        (repeat ((fail_if_success (with_reducible show wpAny _ _ (compareOp CmpOp.NotEq (Value.ref _) (Value.ref _)) _ _ _)); first | (k_unfold; (try dsimp only)) | ((with_reducible show wpAny _ _ (exec (Stmt.For (Expr.Name _ _) (Expr.Call _ _ _ _) _ _ _) _) _ _ _); (k_here; (rename Fr _ _ _ _ => lF'); (with_unfolding_all refine' For_turns lF' ?_; k_whole))) | ((with_reducible show wpAny _ _ (call (Value.builtin "len") _) _ _ _); (k_here; (with_reducible show wpAny _ _ (call (Value.builtin "len") [Value.ref _]) _ _ _); k_dflt (refine' kst_len ?zzk1 ?zzk2 ?zzk3 ?zzk4 ?_; (case zzk1 => k_asm); (case zzk2 => k_mem); (case zzk3 => first | assumption | exact rfl); (case zzk4 => ((try simp only [List.length_append, List.length_cons, List.length_nil]); omega)); k_whole))) | ((with_reducible show wpAny _ _ (call (Value.builtin "list.append") _) _ _ _); (k_here; (with_reducible show wpAny _ _ (call (Value.builtin _) [Value.ref _, _]) _ _ _); k_dflt (refine' append_L ?zzk1 ?zzk2 ?zzk3 ?_ ?zzz; (case zzk1 => k_asm); (case zzk2 => k_asm); (case zzk3 => k_upd); (case zzz => size_fits); k_whole); intro h' F' N'; (try k_sweep))) | walk1 | (dsimp only; walk1)))
        rename News _ _ _ _ => N38
        have hch : ∀ c ∈ l, c < 0x110000 := fun c hc => by rcases hT3 c hc with h | h | h <;> omega
        have hch2 := parts_chars W.length l ms hch
        refine ne_dataH (reads_newData (News.isList N38 (List.mem_cons_of_mem _ List.mem_cons_self)) hCb) (reads_newData (News.isList N38 List.mem_cons_self) hC6) (strs_shaped _ hch2) (strs_shaped _ hch2) (by ke_room) ?_
        simp only [PyData.eqv, strs_eqv, Bool.not_true]
        have N39 := cb_drop (news := rest5) N38 (fun p hp => List.mem_cons_of_mem _ (List.mem_cons_of_mem _ hp))
        clear N38
        have hP6 := hP4.mono hs7
        have hlm6 := hlm4.mono hs7
        have hlc6 := hs7 _ hlc4
        have hlf6 := hs7 _ hlf3
        have hMs6 := hMs3.mono hs7
        rename News _ _ _ _ => N40
        have hWu : (W.map cap).length = W.length := List.length_map _
        have hlu : (l.map (rep 97 65)).length = l.length := List.length_map _
        have hgi : Str.ofString "gi" = Str.ofString "g" ∨ Str.ofString "gi" = Str.ofString "gm" ∨ Str.ofString "gi" = Str.ofString "gi" := .inr (.inr rfl)
        have hgi2 : (!(Builtin.Str.occurrences (Str.ofString "gi") (Str.ofString "i") 0 (Str.ofString "gi").length 1).isEmpty) = true := by decide +kernel
        have hg2 : (!(Builtin.Str.occurrences (Str.ofString "g") (Str.ofString "i") 0 (Str.ofString "g").length 1).isEmpty) = false := by decide +kernel
        have hre : Txt.replace (S l) (Str.ofString "a") (Str.ofString "A") = S (l.map (rep 97 65)) := by
          rw [show Str.ofString "a" = ⟨#[97]⟩ by decide +kernel, show Str.ofString "A" = ⟨#[65]⟩ by decide +kernel]
          exact replace_map l 97 65
        (repeat ((fail_if_success (with_reducible show wpAny _ _ (call (Value.builtin "str.upper") _) _ _ _)); first | (k_unfold; (try dsimp only)) | ((with_reducible show wpAny _ _ (exec (Stmt.For (Expr.Name _ _) (Expr.Call _ _ _ _) _ _ _) _) _ _ _); (k_here; (rename Fr _ _ _ _ => lF'); (with_unfolding_all refine' For_turns lF' ?_; k_whole))) | ((with_reducible show wpAny _ _ (call (Value.builtin "len") _) _ _ _); (k_here; (with_reducible show wpAny _ _ (call (Value.builtin "len") [Value.ref _]) _ _ _); k_dflt (refine' kst_len ?zzk1 ?zzk2 ?zzk3 ?zzk4 ?_; (case zzk1 => k_asm); (case zzk2 => k_mem); (case zzk3 => first | assumption | exact rfl); (case zzk4 => ((try simp only [List.length_append, List.length_cons, List.length_nil]); omega)); k_whole))) | ((with_reducible show wpAny _ _ (call (Value.builtin "list.append") _) _ _ _); (k_here; (with_reducible show wpAny _ _ (call (Value.builtin _) [Value.ref _, _]) _ _ _); k_dflt (refine' append_L ?zzk1 ?zzk2 ?zzk3 ?_ ?zzz; (case zzk1 => k_asm); (case zzk2 => k_asm); (case zzk3 => k_upd); (case zzz => size_fits); k_whole); intro h' F' N'; (try k_sweep))) | walk1 | (dsimp only; walk1)))
        refine SC.upper (by rw [hUp, S_length, hWu]; exact decide_eq_false (by rw [sizeLine_eq]; omega)) ?_
        rw [hUp]
        (try dsimp only); (try k_fold)
        (repeat ((fail_if_success (with_reducible show wpAny _ _ (call (Value.ref 647) _) _ _ _)); first | (k_unfold; (try dsimp only)) | ((with_reducible show wpAny _ _ (exec (Stmt.For (Expr.Name _ _) (Expr.Call _ _ _ _) _ _ _) _) _ _ _); (k_here; (rename Fr _ _ _ _ => lF'); (with_unfolding_all refine' For_turns lF' ?_; k_whole))) | ((with_reducible show wpAny _ _ (call (Value.builtin "len") _) _ _ _); (k_here; (with_reducible show wpAny _ _ (call (Value.builtin "len") [Value.ref _]) _ _ _); k_dflt (refine' kst_len ?zzk1 ?zzk2 ?zzk3 ?zzk4 ?_; (case zzk1 => k_asm); (case zzk2 => k_mem); (case zzk3 => first | assumption | exact rfl); (case zzk4 => ((try simp only [List.length_append, List.length_cons, List.length_nil]); omega)); k_whole))) | ((with_reducible show wpAny _ _ (call (Value.builtin "list.append") _) _ _ _); (k_here; (with_reducible show wpAny _ _ (call (Value.builtin _) [Value.ref _, _]) _ _ _); k_dflt (refine' append_L ?zzk1 ?zzk2 ?zzk3 ?_ ?zzz; (case zzk1 => k_asm); (case zzk2 => k_asm); (case zzk3 => k_upd); (case zzz => size_fits); k_whole); intro h' F' N'; (try k_sweep))) | walk1 | (dsimp only; walk1)))
        refine wpAny_with_toks (n := 1) (by show 1 ≤ _ + 1; omega) ?_
        (repeat ((fail_if_success (with_reducible show wpAny _ _ (call (Value.ref 647) _) _ _ _)); first | (k_unfold; (try dsimp only)) | ((with_reducible show wpAny _ _ (exec (Stmt.For (Expr.Name _ _) (Expr.Call _ _ _ _) _ _ _) _) _ _ _); (k_here; (rename Fr _ _ _ _ => lF'); (with_unfolding_all refine' For_turns lF' ?_; k_whole))) | ((with_reducible show wpAny _ _ (call (Value.builtin "len") _) _ _ _); (k_here; (with_reducible show wpAny _ _ (call (Value.builtin "len") [Value.ref _]) _ _ _); k_dflt (refine' kst_len ?zzk1 ?zzk2 ?zzk3 ?zzk4 ?_; (case zzk1 => k_asm); (case zzk2 => k_mem); (case zzk3 => first | assumption | exact rfl); (case zzk4 => ((try simp only [List.length_append, List.length_cons, List.length_nil]); omega)); k_whole))) | ((with_reducible show wpAny _ _ (call (Value.builtin "list.append") _) _ _ _); (k_here; (with_reducible show wpAny _ _ (call (Value.builtin _) [Value.ref _, _]) _ _ _); k_dflt (refine' append_L ?zzk1 ?zzk2 ?zzk3 ?_ ?zzz; (case zzk1 => k_asm); (case zzk2 => k_asm); (case zzk3 => k_upd); (case zzz => size_fits); k_whole); intro h' F' N'; (try k_sweep))) | walk1 | (dsimp only; walk1)))
        (with_reducible show wpAny _ _ (call (Value.ref 647) _) _ _ _)
        k_dflt (refine' read_ok ?m11 ?m12 ?m13 ?m14 ?m15 ?m1K ?m1d ?m1u _ ?m1l ?m1L _ _ _ ?m1x ?_)
        (case m11 => k_asm)
        (case m12 => k_asm)
        (case m13 => k_asm)
        (case m14 => k_asm)
        (case m15 => k_asm)
        (case m1K => first | exact rfl | assumption)
        (case m1d => ktr_room)
        (case m1u => ktr_units)
        (case m1l => omega)
        (case m1L => exact cap_let hWc)
        (case m1x => exact hgi)
        intro P2 rest6 hp20 tk20 hPg hs8 F41 N41 htk
        have htk1 : 1 ≤ tk20 := htk
        (try dsimp only); (try k_fold)
        (repeat ((fail_if_success (with_reducible show wpAny _ _ (call (Value.builtin "str.replace") _) _ _ _)); first | (k_unfold; (try dsimp only)) | ((with_reducible show wpAny _ _ (exec (Stmt.For (Expr.Name _ _) (Expr.Call _ _ _ _) _ _ _) _) _ _ _); (k_here; (rename Fr _ _ _ _ => lF'); (with_unfolding_all refine' For_turns lF' ?_; k_whole))) | ((with_reducible show wpAny _ _ (call (Value.builtin "len") _) _ _ _); (k_here; (with_reducible show wpAny _ _ (call (Value.builtin "len") [Value.ref _]) _ _ _); k_dflt (refine' kst_len ?zzk1 ?zzk2 ?zzk3 ?zzk4 ?_; (case zzk1 => k_asm); (case zzk2 => k_mem); (case zzk3 => first | assumption | exact rfl); (case zzk4 => ((try simp only [List.length_append, List.length_cons, List.length_nil]); omega)); k_whole))) | ((with_reducible show wpAny _ _ (call (Value.builtin "list.append") _) _ _ _); (k_here; (with_reducible show wpAny _ _ (call (Value.builtin _) [Value.ref _, _]) _ _ _); k_dflt (refine' append_L ?zzk1 ?zzk2 ?zzk3 ?_ ?zzz; (case zzk1 => k_asm); (case zzk2 => k_asm); (case zzk3 => k_upd); (case zzz => size_fits); k_whole); intro h' F' N'; (try k_sweep))) | walk1 | (dsimp only; walk1)))
        refine SC.replaceW (by ((show @Ne Nat _ _); first | exact Nat.succ_ne_zero _ | exact Nat.ne_of_gt htk1 | omega)) (by ((show @Ne Nat _ _); first | exact Nat.succ_ne_zero _ | exact Nat.ne_of_gt htk1 | omega)) (by ((show @Ne Nat _ _); first | exact Nat.succ_ne_zero _ | exact Nat.ne_of_gt htk1 | omega)) (by decide +kernel) (by omega) (by decide +kernel) ?_
        intro tr6 kr6
        rw [hre]
        (try dsimp only); (try k_fold)
        have hlmg := hlm6.mono hs8
        (repeat ((fail_if_success (with_reducible show wpAny _ _ (call (Value.ref 668) _) _ _ _)); first | (k_unfold; (try dsimp only)) | ((with_reducible show wpAny _ _ (exec (Stmt.For (Expr.Name _ _) (Expr.Call _ _ _ _) _ _ _) _) _ _ _); (k_here; (rename Fr _ _ _ _ => lF'); (with_unfolding_all refine' For_turns lF' ?_; k_whole))) | ((with_reducible show wpAny _ _ (call (Value.builtin "len") _) _ _ _); (k_here; (with_reducible show wpAny _ _ (call (Value.builtin "len") [Value.ref _]) _ _ _); k_dflt (refine' kst_len ?zzk1 ?zzk2 ?zzk3 ?zzk4 ?_; (case zzk1 => k_asm); (case zzk2 => k_mem); (case zzk3 => first | assumption | exact rfl); (case zzk4 => ((try simp only [List.length_append, List.length_cons, List.length_nil]); omega)); k_whole))) | ((with_reducible show wpAny _ _ (call (Value.builtin "list.append") _) _ _ _); (k_here; (with_reducible show wpAny _ _ (call (Value.builtin _) [Value.ref _, _]) _ _ _); k_dflt (refine' append_L ?zzk1 ?zzk2 ?zzk3 ?_ ?zzz; (case zzk1 => k_asm); (case zzk2 => k_asm); (case zzk3 => k_upd); (case zzz => size_fits); k_whole); intro h' F' N'; (try k_sweep))) | walk1 | (dsimp only; walk1)))
        (with_reducible show wpAny _ _ (call (Value.ref 668) _) _ _ _)
        k_dflt (refine' every_ok ?m21 ?m22 ?m23 ?m24 ?m25 ?m2K ?m2d ?m2u _ _ _ _ _ _ true ?m2a ?m2b ?m2c ?m2w ?m2f ?m2g ?m2h ?m2i ?m2j ?_)
        (case m21 => k_asm)
        (case m22 => k_asm)
        (case m23 => k_asm)
        (case m24 => k_asm)
        (case m25 => k_asm)
        (case m2K => first | exact rfl | assumption)
        (case m2d => ktr_room)
        (case m2u => ktr_units)
        (case m2g => exact hPg)
        (case m2h => exact hlmg)
        (case m2a => decide +kernel)
        (case m2b => exact hgi2)
        (case m2c => (rw [hlu]; exact hl))
        (case m2w => (rw [hWu]; exact hW0))
        (case m2f => omega)
        (case m2i => exact cap_fold hWc)
        (case m2j => exact rep_fold hT3)
        intro lg vg mg2 kg rest7 hp21 tk21 hDg hMg hs9 hne9 F42 N42
        (try dsimp only); (try k_fold)
        obtain rfl : ms = mg2 := (hD.turn (great_match hWc hT3) hWu.symm hlu.symm).one hDg
        (repeat ((fail_if_success (with_reducible show wpAny _ _ (compareOp CmpOp.Eq (Value.ref _) (Value.ref _)) _ _ _)); first | (k_unfold; (try dsimp only)) | ((with_reducible show wpAny _ _ (exec (Stmt.For (Expr.Name _ _) (Expr.Call _ _ _ _) _ _ _) _) _ _ _); (k_here; (rename Fr _ _ _ _ => lF'); (with_unfolding_all refine' For_turns lF' ?_; k_whole))) | ((with_reducible show wpAny _ _ (call (Value.builtin "len") _) _ _ _); (k_here; (with_reducible show wpAny _ _ (call (Value.builtin "len") [Value.ref _]) _ _ _); k_dflt (refine' kst_len ?zzk1 ?zzk2 ?zzk3 ?zzk4 ?_; (case zzk1 => k_asm); (case zzk2 => k_mem); (case zzk3 => first | assumption | exact rfl); (case zzk4 => ((try simp only [List.length_append, List.length_cons, List.length_nil]); omega)); k_whole))) | ((with_reducible show wpAny _ _ (call (Value.builtin "list.append") _) _ _ _); (k_here; (with_reducible show wpAny _ _ (call (Value.builtin _) [Value.ref _, _]) _ _ _); k_dflt (refine' append_L ?zzk1 ?zzk2 ?zzk3 ?_ ?zzz; (case zzk1 => k_asm); (case zzk2 => k_asm); (case zzk3 => k_upd); (case zzz => size_fits); k_whole); intro h' F' N'; (try k_sweep))) | walk1 | (dsimp only; walk1)))
        rename News _ _ _ _ => N43
        obtain ⟨as3, R3⟩ := MTups.reads N43 List.mem_cons_self hMg (fun p hp => List.mem_cons_of_mem _ hp)
        obtain ⟨as4, R4⟩ := MTups.reads N43 (List.mem_cons_of_mem _ (hs9 _ (hs8 _ hlf6))) hMs6 (fun p hp => List.mem_cons_of_mem _ (hs9 _ (hs8 _ hp)))
        rw [hWu] at R3
        refine eq_dataH R3 R4 (tups_shaped _ _) (tups_shaped _ _) (by ke_room) ?_
        simp only [PyData.eqv, tups_eqv]
        have hlcg := hs9 _ (hs8 _ hlc6)
        (repeat ((fail_if_success (with_reducible show wpAny _ _ (subscriptTail (Expr.Name _ _) (Expr.Constant _ _ _) (Value.ref _) (Value.int _ _)) _ _ _)); first | (k_unfold; (try dsimp only)) | ((with_reducible show wpAny _ _ (exec (Stmt.For (Expr.Name _ _) (Expr.Call _ _ _ _) _ _ _) _) _ _ _); (k_here; (rename Fr _ _ _ _ => lF'); (with_unfolding_all refine' For_turns lF' ?_; k_whole))) | ((with_reducible show wpAny _ _ (call (Value.builtin "len") _) _ _ _); (k_here; (with_reducible show wpAny _ _ (call (Value.builtin "len") [Value.ref _]) _ _ _); k_dflt (refine' kst_len ?zzk1 ?zzk2 ?zzk3 ?zzk4 ?_; (case zzk1 => k_asm); (case zzk2 => k_mem); (case zzk3 => first | assumption | exact rfl); (case zzk4 => ((try simp only [List.length_append, List.length_cons, List.length_nil]); omega)); k_whole))) | ((with_reducible show wpAny _ _ (call (Value.builtin "list.append") _) _ _ _); (k_here; (with_reducible show wpAny _ _ (call (Value.builtin _) [Value.ref _, _]) _ _ _); k_dflt (refine' append_L ?zzk1 ?zzk2 ?zzk3 ?_ ?zzz; (case zzk1 => k_asm); (case zzk2 => k_asm); (case zzk3 => k_upd); (case zzz => size_fits); k_whole); intro h' F' N'; (try k_sweep))) | walk1 | (dsimp only; walk1)))
        rename News _ _ _ _ => N47
        refine item_litK (News.isList N47 (List.mem_cons_of_mem _ hlcg)) (by decide) (by decide) (show [Value.int a0 c0, Value.int a1 c1, Value.int a2 c2, Value.int a3 c3][Int.toNat 1]? = some (Value.int a1 c1) from rfl) ?_
        (repeat ((fail_if_success (with_reducible show wpAny _ _ (compareOp CmpOp.Eq (Value.int _ _) (Value.int _ _)) _ _ _)); first | (k_unfold; (try dsimp only)) | ((with_reducible show wpAny _ _ (exec (Stmt.For (Expr.Name _ _) (Expr.Call _ _ _ _) _ _ _) _) _ _ _); (k_here; (rename Fr _ _ _ _ => lF'); (with_unfolding_all refine' For_turns lF' ?_; k_whole))) | ((with_reducible show wpAny _ _ (call (Value.builtin "len") _) _ _ _); (k_here; (with_reducible show wpAny _ _ (call (Value.builtin "len") [Value.ref _]) _ _ _); k_dflt (refine' kst_len ?zzk1 ?zzk2 ?zzk3 ?zzk4 ?_; (case zzk1 => k_asm); (case zzk2 => k_mem); (case zzk3 => first | assumption | exact rfl); (case zzk4 => ((try simp only [List.length_append, List.length_cons, List.length_nil]); omega)); k_whole))) | ((with_reducible show wpAny _ _ (call (Value.builtin "list.append") _) _ _ _); (k_here; (with_reducible show wpAny _ _ (call (Value.builtin _) [Value.ref _, _]) _ _ _); k_dflt (refine' append_L ?zzk1 ?zzk2 ?zzk3 ?_ ?zzz; (case zzk1 => k_asm); (case zzk2 => k_asm); (case zzk3 => k_upd); (case zzz => size_fits); k_whole); intro h' F' N'; (try k_sweep))) | walk1 | (dsimp only; walk1)))
        iterate 3 (first | (k_unfold; (try dsimp only)) | ((with_reducible show wpAny _ _ (exec (Stmt.For (Expr.Name _ _) (Expr.Call _ _ _ _) _ _ _) _) _ _ _); (k_here; (rename Fr _ _ _ _ => lF'); (with_unfolding_all refine' For_turns lF' ?_; k_whole))) | ((with_reducible show wpAny _ _ (call (Value.builtin "len") _) _ _ _); (k_here; (with_reducible show wpAny _ _ (call (Value.builtin "len") [Value.ref _]) _ _ _); k_dflt (refine' kst_len ?zzk1 ?zzk2 ?zzk3 ?zzk4 ?_; (case zzk1 => k_asm); (case zzk2 => k_mem); (case zzk3 => first | assumption | exact rfl); (case zzk4 => ((try simp only [List.length_append, List.length_cons, List.length_nil]); omega)); k_whole))) | ((with_reducible show wpAny _ _ (call (Value.builtin "list.append") _) _ _ _); (k_here; (with_reducible show wpAny _ _ (call (Value.builtin _) [Value.ref _, _]) _ _ _); k_dflt (refine' append_L ?zzk1 ?zzk2 ?zzk3 ?_ ?zzz; (case zzk1 => k_asm); (case zzk2 => k_asm); (case zzk3 => k_upd); (case zzz => size_fits); k_whole); intro h' F' N'; (try k_sweep))) | walk1 | (dsimp only; walk1))
        · have h1 : a1.fmod 6 = 1 := by assumption
          rename Fr _ _ _ _ => F99
          kc_bool
          exact law_end F99 hgens (beq_iff_eq.mpr h1) rfl rfl
        · have h1 : a1.fmod 6 ≠ 1 := by assumption
          (repeat ((fail_if_success (with_reducible show wpAny _ _ (call (Value.ref 647) _) _ _ _)); first | (k_unfold; (try dsimp only)) | ((with_reducible show wpAny _ _ (exec (Stmt.For (Expr.Name _ _) (Expr.Call _ _ _ _) _ _ _) _) _ _ _); (k_here; (rename Fr _ _ _ _ => lF'); (with_unfolding_all refine' For_turns lF' ?_; k_whole))) | ((with_reducible show wpAny _ _ (call (Value.builtin "len") _) _ _ _); (k_here; (with_reducible show wpAny _ _ (call (Value.builtin "len") [Value.ref _]) _ _ _); k_dflt (refine' kst_len ?zzk1 ?zzk2 ?zzk3 ?zzk4 ?_; (case zzk1 => k_asm); (case zzk2 => k_mem); (case zzk3 => first | assumption | exact rfl); (case zzk4 => ((try simp only [List.length_append, List.length_cons, List.length_nil]); omega)); k_whole))) | ((with_reducible show wpAny _ _ (call (Value.builtin "list.append") _) _ _ _); (k_here; (with_reducible show wpAny _ _ (call (Value.builtin _) [Value.ref _, _]) _ _ _); k_dflt (refine' append_L ?zzk1 ?zzk2 ?zzk3 ?_ ?zzz; (case zzk1 => k_asm); (case zzk2 => k_asm); (case zzk3 => k_upd); (case zzz => size_fits); k_whole); intro h' F' N'; (try k_sweep))) | walk1 | (dsimp only; walk1)))
          refine wpAny_with_toks (n := 1) (by show 1 ≤ _ + 1; omega) ?_
          (repeat ((fail_if_success (with_reducible show wpAny _ _ (call (Value.ref 647) _) _ _ _)); first | (k_unfold; (try dsimp only)) | ((with_reducible show wpAny _ _ (exec (Stmt.For (Expr.Name _ _) (Expr.Call _ _ _ _) _ _ _) _) _ _ _); (k_here; (rename Fr _ _ _ _ => lF'); (with_unfolding_all refine' For_turns lF' ?_; k_whole))) | ((with_reducible show wpAny _ _ (call (Value.builtin "len") _) _ _ _); (k_here; (with_reducible show wpAny _ _ (call (Value.builtin "len") [Value.ref _]) _ _ _); k_dflt (refine' kst_len ?zzk1 ?zzk2 ?zzk3 ?zzk4 ?_; (case zzk1 => k_asm); (case zzk2 => k_mem); (case zzk3 => first | assumption | exact rfl); (case zzk4 => ((try simp only [List.length_append, List.length_cons, List.length_nil]); omega)); k_whole))) | ((with_reducible show wpAny _ _ (call (Value.builtin "list.append") _) _ _ _); (k_here; (with_reducible show wpAny _ _ (call (Value.builtin _) [Value.ref _, _]) _ _ _); k_dflt (refine' append_L ?zzk1 ?zzk2 ?zzk3 ?_ ?zzz; (case zzk1 => k_asm); (case zzk2 => k_asm); (case zzk3 => k_upd); (case zzz => size_fits); k_whole); intro h' F' N'; (try k_sweep))) | walk1 | (dsimp only; walk1)))
          (with_reducible show wpAny _ _ (call (Value.ref 647) _) _ _ _)
          k_dflt (refine' read_ok ?m31 ?m32 ?m33 ?m34 ?m35 ?m3K ?m3d ?m3u _ ?m3l ?m3L _ _ _ ?m3x ?_)
          (case m31 => k_asm)
          (case m32 => k_asm)
          (case m33 => k_asm)
          (case m34 => k_asm)
          (case m35 => k_asm)
          (case m3K => first | exact rfl | assumption)
          (case m3d => ktr_room)
          (case m3u => ktr_units)
          (case m3l => omega)
          (case m3L => exact hWl)
          (case m3x => exact .inl rfl)
          intro P3 rest8 hp22 tk22 hPh hs10 F44 N44 htk2
          have htk3 : 1 ≤ tk22 := htk2
          (try dsimp only); (try k_fold)
          (repeat ((fail_if_success (with_reducible show wpAny _ _ (call (Value.builtin "str.replace") _) _ _ _)); first | (k_unfold; (try dsimp only)) | ((with_reducible show wpAny _ _ (exec (Stmt.For (Expr.Name _ _) (Expr.Call _ _ _ _) _ _ _) _) _ _ _); (k_here; (rename Fr _ _ _ _ => lF'); (with_unfolding_all refine' For_turns lF' ?_; k_whole))) | ((with_reducible show wpAny _ _ (call (Value.builtin "len") _) _ _ _); (k_here; (with_reducible show wpAny _ _ (call (Value.builtin "len") [Value.ref _]) _ _ _); k_dflt (refine' kst_len ?zzk1 ?zzk2 ?zzk3 ?zzk4 ?_; (case zzk1 => k_asm); (case zzk2 => k_mem); (case zzk3 => first | assumption | exact rfl); (case zzk4 => ((try simp only [List.length_append, List.length_cons, List.length_nil]); omega)); k_whole))) | ((with_reducible show wpAny _ _ (call (Value.builtin "list.append") _) _ _ _); (k_here; (with_reducible show wpAny _ _ (call (Value.builtin _) [Value.ref _, _]) _ _ _); k_dflt (refine' append_L ?zzk1 ?zzk2 ?zzk3 ?_ ?zzz; (case zzk1 => k_asm); (case zzk2 => k_asm); (case zzk3 => k_upd); (case zzz => size_fits); k_whole); intro h' F' N'; (try k_sweep))) | walk1 | (dsimp only; walk1)))
          refine SC.replaceW (by ((show @Ne Nat _ _); first | exact Nat.succ_ne_zero _ | exact Nat.ne_of_gt htk3 | omega)) (by ((show @Ne Nat _ _); first | exact Nat.succ_ne_zero _ | exact Nat.ne_of_gt htk3 | omega)) (by ((show @Ne Nat _ _); first | exact Nat.succ_ne_zero _ | exact Nat.ne_of_gt htk3 | omega)) (by decide +kernel) (by omega) (by decide +kernel) ?_
          intro tr7 kr7
          rw [hre]
          (try dsimp only); (try k_fold)
          have hlmh := (hlmg.mono hs9).mono (fun p hp => hs10 p (List.mem_cons_of_mem _ hp))
          (repeat ((fail_if_success (with_reducible show wpAny _ _ (call (Value.ref 668) _) _ _ _)); first | (k_unfold; (try dsimp only)) | ((with_reducible show wpAny _ _ (exec (Stmt.For (Expr.Name _ _) (Expr.Call _ _ _ _) _ _ _) _) _ _ _); (k_here; (rename Fr _ _ _ _ => lF'); (with_unfolding_all refine' For_turns lF' ?_; k_whole))) | ((with_reducible show wpAny _ _ (call (Value.builtin "len") _) _ _ _); (k_here; (with_reducible show wpAny _ _ (call (Value.builtin "len") [Value.ref _]) _ _ _); k_dflt (refine' kst_len ?zzk1 ?zzk2 ?zzk3 ?zzk4 ?_; (case zzk1 => k_asm); (case zzk2 => k_mem); (case zzk3 => first | assumption | exact rfl); (case zzk4 => ((try simp only [List.length_append, List.length_cons, List.length_nil]); omega)); k_whole))) | ((with_reducible show wpAny _ _ (call (Value.builtin "list.append") _) _ _ _); (k_here; (with_reducible show wpAny _ _ (call (Value.builtin _) [Value.ref _, _]) _ _ _); k_dflt (refine' append_L ?zzk1 ?zzk2 ?zzk3 ?_ ?zzz; (case zzk1 => k_asm); (case zzk2 => k_asm); (case zzk3 => k_upd); (case zzz => size_fits); k_whole); intro h' F' N'; (try k_sweep))) | walk1 | (dsimp only; walk1)))
          (with_reducible show wpAny _ _ (call (Value.ref 668) _) _ _ _)
          k_dflt (refine' every_ok ?m41 ?m42 ?m43 ?m44 ?m45 ?m4K ?m4d ?m4u _ _ _ _ _ _ false ?m4a ?m4b ?m4c ?m4w ?m4f ?m4g ?m4h ?m4i ?m4j ?_)
          (case m41 => k_asm)
          (case m42 => k_asm)
          (case m43 => k_asm)
          (case m44 => k_asm)
          (case m45 => k_asm)
          (case m4K => first | exact rfl | assumption)
          (case m4d => ktr_room)
          (case m4u => ktr_units)
          (case m4g => exact hPh)
          (case m4h => exact hlmh)
          (case m4a => decide +kernel)
          (case m4b => exact hg2)
          (case m4c => (rw [hlu]; exact hl))
          (case m4w => exact hW0)
          (case m4f => omega)
          (case m4i => exact (fun _ _ h => nomatch h))
          (case m4j => exact (fun _ _ h => nomatch h))
          intro lh vh mh kh rest9 hp23 tk23 hDh hMh hs11 hneh F45 N45
          (try dsimp only); (try k_fold)
          obtain rfl : mh = [] := hDh.none (no_small (hW97 h1))
          (repeat ((fail_if_success (with_reducible show wpAny _ _ (compareOp CmpOp.Eq (Value.ref _) (Value.ref _)) _ _ _)); first | (k_unfold; (try dsimp only)) | ((with_reducible show wpAny _ _ (exec (Stmt.For (Expr.Name _ _) (Expr.Call _ _ _ _) _ _ _) _) _ _ _); (k_here; (rename Fr _ _ _ _ => lF'); (with_unfolding_all refine' For_turns lF' ?_; k_whole))) | ((with_reducible show wpAny _ _ (call (Value.builtin "len") _) _ _ _); (k_here; (with_reducible show wpAny _ _ (call (Value.builtin "len") [Value.ref _]) _ _ _); k_dflt (refine' kst_len ?zzk1 ?zzk2 ?zzk3 ?zzk4 ?_; (case zzk1 => k_asm); (case zzk2 => k_mem); (case zzk3 => first | assumption | exact rfl); (case zzk4 => ((try simp only [List.length_append, List.length_cons, List.length_nil]); omega)); k_whole))) | ((with_reducible show wpAny _ _ (call (Value.builtin "list.append") _) _ _ _); (k_here; (with_reducible show wpAny _ _ (call (Value.builtin _) [Value.ref _, _]) _ _ _); k_dflt (refine' append_L ?zzk1 ?zzk2 ?zzk3 ?_ ?zzz; (case zzk1 => k_asm); (case zzk2 => k_asm); (case zzk3 => k_upd); (case zzz => size_fits); k_whole); intro h' F' N'; (try k_sweep))) | walk1 | (dsimp only; walk1)))
          rename News _ _ _ _ => N46
          obtain ⟨as5, R5⟩ := MTups.reads N46 (List.mem_cons_of_mem _ List.mem_cons_self) hMh (fun p hp => List.mem_cons_of_mem _ (List.mem_cons_of_mem _ hp))
          have R6 := reads_list_at (N46.get List.mem_cons_self) rfl rfl (.nil)
          refine eq_dataH R5 R6 (tups_shaped _ _) rfl (by ke_room) ?_
          simp only [List.map_nil, PyData.eqv, PyData.eqvAll]
          repeat ((fail_if_success (with_reducible show GoodW _ _ _ _ _ _ _)); (first | (k_unfold; (try dsimp only)) | ((with_reducible show wpAny _ _ (exec (Stmt.For (Expr.Name _ _) (Expr.Call _ _ _ _) _ _ _) _) _ _ _); (k_here; (rename Fr _ _ _ _ => lF'); (with_unfolding_all refine' For_turns lF' ?_; k_whole))) | ((with_reducible show wpAny _ _ (call (Value.builtin "len") _) _ _ _); (k_here; (with_reducible show wpAny _ _ (call (Value.builtin "len") [Value.ref _]) _ _ _); k_dflt (refine' kst_len ?zzk1 ?zzk2 ?zzk3 ?zzk4 ?_; (case zzk1 => k_asm); (case zzk2 => k_mem); (case zzk3 => first | assumption | exact rfl); (case zzk4 => ((try simp only [List.length_append, List.length_cons, List.length_nil]); omega)); k_whole))) | ((with_reducible show wpAny _ _ (call (Value.builtin "list.append") _) _ _ _); (k_here; (with_reducible show wpAny _ _ (call (Value.builtin _) [Value.ref _, _]) _ _ _); k_dflt (refine' append_L ?zzk1 ?zzk2 ?zzk3 ?_ ?zzz; (case zzk1 => k_asm); (case zzk2 => k_asm); (case zzk3 => k_upd); (case zzz => size_fits); k_whole); intro h' F' N'; (try k_sweep))) | walk1 | (dsimp only; walk1)))
          rename Fr _ _ _ _ => F99
          kc_bool
          exact law_end F99 hgens rfl rfl rfl

end
end
end
end Mine
theorem PySem.Challenge.cw_sa0383_01_holds : PySem.Challenge.rw_sa0383_01.Holds := by
  exact Mine.lawT
