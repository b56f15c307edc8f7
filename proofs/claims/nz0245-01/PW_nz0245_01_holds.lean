import PyProof.Rows.All
import Wide.All
import OpenK.AllK
import Wide.FinOn
import PySem.Challenge.RW_nz0245_01
open PySem PySem.W PyProof.Rows
set_option Elab.async false
set_option maxRecDepth 100000
set_option maxHeartbeats 8000000
set_option linter.unusedVariables false
set_option pp.deepTerms false
set_option pp.deepTerms.threshold 6
set_option pp.proofs false
namespace Mine
section
open PySem PySem.W PyProof.Rows
/-- the body of the def so called, opened by `return True` -/
def early (n : Str) (st : Stmt) : Stmt := match st with
  | .FunctionDef name args body decs rets tps scope ts bind pos => if name == n then .FunctionDef name args (.Return (some (.Constant (.bool true) 0 pos)) pos :: body) decs rets tps scope ts bind pos else st
  | st => st
def toyProg : Program := { PySem.Challenge.pw_nz0245_01 with main := { PySem.Challenge.pw_nz0245_01.main with body := PySem.Challenge.pw_nz0245_01.main.body.map (early "law") } }
def toy : OpenLaw := { PySem.Challenge.rw_nz0245_01 with prog := toyProg }
theorem T0.tw17803280552193589181 : True := trivial
theorem T0.tw817699660751619486 : True := trivial
theorem T0.tw5729698768001205343 : True := trivial
theorem T0.tw14727096001552384831 : True := trivial
theorem T0.tw2008762296917930918 : True := trivial
theorem T0.tw12659716565484080734 : True := trivial
theorem T0.tw17753713627320545350 : True := trivial
theorem T0.tw14843643820061301863 : True := trivial
theorem T0.tw12850267348140891091 : True := trivial
theorem T0.tw9336244876985286136 : True := trivial
theorem T0.tw18018966345143463626 : True := trivial
theorem T0.tw17376238703262066727 : True := trivial
theorem T0.tw6125247672734959443 : True := trivial
theorem T0.tw1869397597805709617 : True := trivial
theorem T0.tw17905889770172402582 : True := trivial
theorem T0.tw10033274571040542940 : True := trivial
theorem T0.tw12120759963674881495 : True := trivial
theorem T0.tw11648536117604401891 : True := trivial
theorem T0.tw2881218158482172369 : True := trivial
theorem T0.tw16060908759890046225 : True := trivial
theorem T0.tw15486300391946246445 : True := trivial
theorem T0.tw10330577955230603588 : True := trivial
theorem T0.tw18199108872353690552 : True := trivial
theorem T0.tw6537142194264405863 : True := trivial
theorem T0.tw12007331872544532857 : True := trivial
theorem T0.tw17886372108509820679 : True := trivial
theorem T0.tw3694998676819487725 : True := trivial
theorem T0.tw16731329770989558544 : True := trivial
theorem T0.tw13560129488632301291 : True := trivial
theorem T0.tw13861384577496603218 : True := trivial
theorem T0.tw16545623789352434269 : True := trivial
theorem T0.tw1253307140059531521 : True := trivial
theorem T0.tw3710298889253970016 : True := trivial
theorem T0.tw7470717559239556258 : True := trivial
theorem T0.tw3278433231867104305 : True := trivial
theorem T0.tw10600003313862137681 : True := trivial
theorem T0.tw13819674059965269839 : True := trivial
theorem T0.tw14821303386027735060 : True := trivial
theorem T0.tw16584640322247722314 : True := trivial
theorem T0.tw9097575391909803932 : True := trivial
theorem T0.tw8362730347929013657 : True := trivial
theorem T0.tw6657071323183543307 : True := trivial
theorem T0.tw2242219715209323844 : True := trivial
theorem T0.tw10847513253291746902 : True := trivial
theorem T0.tw1163226585446753474 : True := trivial
theorem T0.tw792886724083066341 : True := trivial
theorem T0.tw13729708501955558060 : True := trivial
theorem T0.tw11431754346458415234 : True := trivial
theorem T0.tw18165729252078940646 : True := trivial
theorem T0.tw15784199016886453822 : True := trivial
theorem T0.tw6155348411690549143 : True := trivial
theorem T0.tw7052236619833172228 : True := trivial
theorem T0.tw3680190793008746685 : True := trivial
theorem T0.tw17208808707695516101 : True := trivial
theorem T0.tw1500352886487391087 : True := trivial
theorem T0.tw12704696066497687392 : True := trivial
theorem T0.tw13886368487495931093 : True := trivial
theorem T0.tw16880272103163467082 : True := trivial
theorem T0.tw1598011431465634037 : True := trivial
theorem T0.tw11598662425125071088 : True := trivial
theorem T0.tw4897509682486803725 : True := trivial
theorem T0.tw18038824508891810906 : True := trivial
theorem T0.tw2639807725621349580 : True := trivial
theorem T0.tw15487714326043580543 : True := trivial
theorem T0.tw10620251486761949410 : True := trivial
theorem T0.tw13307677331918157431 : True := trivial
theorem T0.tw7094721887454206925 : True := trivial
theorem T0.tw12794837618522459343 : True := trivial
theorem T0.tw17774664239356354794 : True := trivial
theorem T0.tw6665676782681193187 : True := trivial
theorem T0.tw8351773826192759959 : True := trivial
theorem T0.tw2071500108483354591 : True := trivial
theorem T0.tw5278709499540737067 : True := trivial
theorem T0.tw11717838899264860931 : True := trivial
theorem T0.tw5302930236655016742 : True := trivial
theorem T0.tw16883377904302204540 : True := trivial
theorem T0.tw10873495621126359259 : True := trivial
theorem T0.tw636338742816540561 : True := trivial
theorem T0.tw1258821081651884079 : True := trivial
theorem T0.tw368583938721311154 : True := trivial
theorem T0.tw17807763949618782288 : True := trivial
theorem T0.tw12172551974332176412 : True := trivial
theorem T0.tw6799872912565146520 : True := trivial
theorem T0.tw11503600432519725955 : True := trivial
theorem T0.tw1256799280714316268 : True := trivial
theorem T0.tw14121806274721225845 : True := trivial
theorem T0.tw7572023078542060125 : True := trivial
theorem T0.tw16396363874523131177 : True := trivial
theorem T0.tw16551025745902352621 : True := trivial
theorem T0.tw14744832292777890530 : True := trivial
theorem T0.tw6553857035319270583 : True := trivial
theorem T0.tw1051435018445345654 : True := trivial
theorem T0.tw574699810524001886 : True := trivial
theorem T0.tw9572981871289624325 : True := trivial
theorem T0.tw17131085791507224452 : True := trivial
theorem T0.tw4219341182486400802 : True := trivial
theorem T0.tw7860217287477430587 : True := trivial
theorem T0.tw5889720057522775508 : True := trivial
theorem T0.tw6338579985315478069 : True := trivial
theorem T0.tw13534365710953671954 : True := trivial
theorem T0.tw8447339749282064736 : True := trivial
theorem T0.tw3836820938731552476 : True := trivial
theorem T0.tw16408678555073171613 : True := trivial
theorem T0.tw9043973329541469497 : True := trivial
theorem T0.tw5473234756463917740 : True := trivial
theorem T0.tw12360195157725582305 : True := trivial
theorem T0.tw15253668012957900807 : True := trivial
theorem T0.tw4275099830712344257 : True := trivial
theorem T0.tw7019665086971669514 : True := trivial
theorem T0.tw12513500128058786493 : True := trivial
theorem T0.tw3868029036720564458 : True := trivial
theorem T0.tw4834036471900892764 : True := trivial
theorem T0.tw16048725201566665483 : True := trivial
theorem T0.tw1942058682385690740 : True := trivial
theorem T0.tw5208687511760412913 : True := trivial
theorem T0.tw15161579741119515521 : True := trivial
theorem T0.tw6540038538525211516 : True := trivial
theorem T0.tw8745750022974500807 : True := trivial
theorem T0.tw15698154404348903769 : True := trivial
theorem T0.tw11917582750765409231 : True := trivial
theorem T0.tw16793883671048318884 : True := trivial
theorem T0.tw10358929813893760613 : True := trivial
theorem T0.tw18223826936408522435 : True := trivial
theorem T0.tw730934552370255916 : True := trivial
theorem T0.tw18286193807911613914 : True := trivial
theorem T0.tw6921427015319945252 : True := trivial
theorem T0.tw13404403116331546151 : True := trivial
theorem T0.tw15516381599006307564 : True := trivial
theorem T0.tw6439099639868757613 : True := trivial
theorem T0.tw7778659918058606859 : True := trivial
theorem T0.tw15836605757082978770 : True := trivial
theorem T0.tw13350123944204249261 : True := trivial
theorem T0.tw66083018940464438 : True := trivial
theorem T0.tw14159600865473653875 : True := trivial
theorem T0.tw3843229602274271972 : True := trivial
theorem T0.tw14964974213401486343 : True := trivial
theorem T0.tw10538997195616752570 : True := trivial
theorem T0.tw4345180646853597641 : True := trivial
theorem T0.tw7062909074106458872 : True := trivial
theorem T0.tw2834788391865011690 : True := trivial
theorem T0.tw17488203824106260827 : True := trivial
theorem T0.tw5495154403753132802 : True := trivial
theorem T0.tw4012361253846872728 : True := trivial
theorem T0.tw7729744473338374454 : True := trivial
theorem T0.tw485512880192938275 : True := trivial
theorem T0.tw15985299352753907270 : True := trivial
theorem T0.tw14741074076158016150 : True := trivial
theorem T0.tw18252691543734028027 : True := trivial
theorem T0.tw3675620598291746062 : True := trivial
theorem T0.tw16772645891317602419 : True := trivial
theorem T0.tw16701848074592722754 : True := trivial
theorem T0.tw17814155342674460590 : True := trivial
theorem T0.tw10504133315637266804 : True := trivial
theorem T0.tw2570851828781802650 : True := trivial
theorem T0.tw644551231061521404 : True := trivial
theorem T0.tw11751499251165047083 : True := trivial
theorem T0.tw15290463170199481351 : True := trivial
theorem T0.tw13529999435422202895 : True := trivial
theorem T0.tw16436520964783008024 : True := trivial
theorem T0.tw3339737826957283762 : True := trivial
theorem T0.tw1742741223267270803 : True := trivial
theorem T0.tw18268154826429056893 : True := trivial
theorem T0.tw3494064969405724136 : True := trivial
theorem T0.tw438628171807272503 : True := trivial
theorem T0.tw17633857471051899459 : True := trivial
theorem T0.tw5186672962448443092 : True := trivial
theorem T0.tw16777845061381524345 : True := trivial
theorem T0.tw6175761181414006021 : True := trivial
theorem T0.tw5089989505450972185 : True := trivial
theorem T0.tw13483446669670703412 : True := trivial
theorem T0.tw5248068337073403561 : True := trivial
theorem T0.tw16322835222216040979 : True := trivial
theorem T0.tw227028583556439812 : True := trivial
theorem T0.tw531724493430520816 : True := trivial
theorem T0.tw12859600303130488271 : True := trivial
theorem T0.tw15357706151700502884 : True := trivial
theorem T0.tw8872378491373696773 : True := trivial
theorem T0.tw3268896064809121205 : True := trivial
theorem T0.tw16879287221642134245 : True := trivial
theorem T0.tw18424851827912254722 : True := trivial
theorem T0.tw11175284482364088373 : True := trivial
theorem T0.tw5340139997174348855 : True := trivial
theorem T0.tw13412308509293376547 : True := trivial
theorem T0.tw4392011792409777501 : True := trivial
theorem T0.tw12860920093439129233 : True := trivial
theorem T0.tw8663218148699843214 : True := trivial
theorem T0.tw3273823405564449974 : True := trivial
theorem T0.tw14184372788231398137 : True := trivial
theorem T0.tw12016312682274923749 : True := trivial
theorem T0.tw2503460247184883832 : True := trivial
theorem T0.tw1513556289524364977 : True := trivial
theorem T0.tw7178294964428033352 : True := trivial
theorem T0.tw1192702066706488206 : True := trivial
theorem T0.tw10072445637372024756 : True := trivial
theorem T0.tw4092441376219977712 : True := trivial
theorem T0.tw8972910598255993136 : True := trivial
theorem T0.tw17867464466292911190 : True := trivial
theorem T0.tw7204445874006455167 : True := trivial
theorem T0.tw16583130537579858402 : True := trivial
theorem T0.tw3384711721139737796 : True := trivial
theorem T0.tw16559074570612008336 : True := trivial
theorem T0.tw16838740529776438995 : True := trivial
theorem T0.tw7894724813612975224 : True := trivial
theorem T0.tw1839974350799276977 : True := trivial
theorem T0.tw15430338211375843122 : True := trivial
theorem T0.tw5661203634736124809 : True := trivial
theorem T0.tw7409331382554928092 : True := trivial
theorem T0.tw18036851835054411878 : True := trivial
theorem T0.tw11322380533733307790 : True := trivial
theorem T0.tw11593080589851681383 : True := trivial
theorem T0.tw12553269167788335045 : True := trivial
theorem T0.tw8600100370956444655 : True := trivial
theorem T0.tw7730494862068398463 : True := trivial
theorem T0.tw5397590789299338941 : True := trivial
theorem T0.tw10770249260141540041 : True := trivial
theorem T0.tw1770992350547057189 : True := trivial
theorem T0.tw14421049016708921995 : True := trivial
theorem T0.tw6153511502478936448 : True := trivial
theorem T0.tw2893224708344182730 : True := trivial
theorem T0.tw12798808671310515466 : True := trivial
theorem T0.tw7465924824928388972 : True := trivial
theorem T0.tw6611151893247228621 : True := trivial
theorem T0.tw4867940420929831468 : True := trivial
theorem T0.tw6551867940832159664 : True := trivial
theorem T0.tw16788471062453768638 : True := trivial
theorem T0.tw3812622710710726509 : True := trivial
theorem T0.tw1491972739422638796 : True := trivial
theorem T0.tw11874752830203639920 : True := trivial
theorem T0.tw16669013097097793387 : True := trivial
theorem T0.tw4802486374621002194 : True := trivial
theorem T0.tw17401893015365846773 : True := trivial
theorem T0.tw1618446239482546563 : True := trivial
theorem T0.tw5171705737248197277 : True := trivial
theorem T0.tw16272123349724870686 : True := trivial
theorem T0.tw11218160757874513301 : True := trivial
theorem T0.tw8636281931242903909 : True := trivial
theorem T0.tw2245960495080593338 : True := trivial
theorem T0.tw8666286302446535422 : True := trivial
theorem T0.tw11805509812389767723 : True := trivial
theorem T0.tw17750752488299456136 : True := trivial
theorem T0.tw12739895039024465659 : True := trivial
theorem T0.tw17085444921496840488 : True := trivial
theorem T0.tw16465819340592692954 : True := trivial
theorem T0.tw15443559856193574130 : True := trivial
theorem T0.tw9219670946205170029 : True := trivial
theorem T0.tw16591120880582042673 : True := trivial
theorem T0.tw4279151378549625112 : True := trivial
theorem T0.tw13170158242474159476 : True := trivial
theorem T0.tw13240951900602781631 : True := trivial
theorem T0.tw14722173110247845429 : True := trivial
theorem T0.tw11763604122282873247 : True := trivial
theorem T0.tw17777908337574620182 : True := trivial
theorem T0.tw8778211077467426190 : True := trivial
theorem T0.tw624684426892900234 : True := trivial
theorem T0.tw10848332050250383194 : True := trivial
theorem T0.tw6703418662848990478 : True := trivial
theorem T0.tw3228032947453663861 : True := trivial
theorem T0.tw14910544813763751632 : True := trivial
theorem T0.tw13484826405551154366 : True := trivial
theorem T0.tw5521581836024273945 : True := trivial
theorem T0.tw5982053701112270919 : True := trivial
theorem T0.tw6650823278825537626 : True := trivial
set_option Elab.async true in
theorem T0 : toy.Holds := by
  open_k
/-- the written part, without the def of the law and what is laid behind it -/
noncomputable def Kc : Params → Frag := by
  intro P
  refine (fun (_ : T0.heap_1_39 P = ?a0 :: ?a1 :: ?a2 :: ?a3 :: ?a4 :: ?a5 :: ?a6 :: ?a7 :: ?a8 :: ?a9 :: ?a10 :: ?a11 :: ?a12 :: ?a13 :: ?a14 :: ?a15 :: ?a16 :: ?a17 :: ?a18 :: ?a19 :: ?a20 :: ?a21 :: ?a22 :: ?a23 :: ?a24 :: ?a25 :: ?a26 :: ?a27 :: ?a28 :: ?a29 :: ?a30 :: ?a31 :: ?a32 :: ?a33 :: ?a34 :: ?a35 :: ?a36 :: ?a37 :: ?a38 :: ?a39 :: ?a40 :: ?a41 :: ?a42 :: ?a43 :: ?a44 :: ?a45 :: ?a46 :: ?a47 :: ?a48 :: ?a49 :: ?a50 :: ?a51 :: ?a52 :: ?a53 :: ?a54 :: ?a55 :: ?a56 :: ?a57 :: ?a58 :: ?a59 :: ?a60 :: ?a61 :: ?a62 :: ?a63 :: ?a64 :: ?a65 :: ?a66 :: ?a67 :: ?a68 :: ?a69 :: ?a70 :: ?a71 :: ?a72 :: ?a73 :: ?a74 :: ?a75 :: ?a76 :: ?a77 :: ?a78 :: ?a79 :: ?a80 :: ?a81 :: ?a82 :: ?a83 :: ?a84 :: ?a85 :: ?a86 :: ?a87 :: ?a88 :: ?a89 :: ?a90 :: ?a91 :: ?a92 :: ?a93 :: ?a94 :: ?a95 :: ?a96 :: ?a97 :: ?a98 :: ?a99 :: ?a100 :: ?a101 :: ?a102 :: ?a103 :: ?a104 :: ?a105 :: ?a106 :: ?a107 :: ?a108 :: ?a109 :: ?a110 :: ?a111 :: ?a112 :: ?a113 :: ?a114 :: ?a115 :: ?a116 :: ?a117 :: ?a118 :: ?a119 :: ?a120 :: ?a121 :: ?a122 :: ?a123 :: ?a124 :: ?a125 :: ?a126 :: ?a127 :: ?a128 :: ?a129 :: ?a130 :: ?a131 :: ?a132 :: ?a133 :: ?a134 :: ?a135 :: ?a136 :: ?a137 :: ?a138 :: ?a139 :: ?a140 :: ?a141 :: ?a142 :: ?a143 :: ?a144 :: ?a145 :: ?a146 :: ?a147 :: ?a148 :: ?a149 :: ?a150 :: ?a151 :: ?a152 :: ?a153 :: ?a154 :: ?a155 :: ?a156 :: ?a157 :: ?a158 :: ?a159 :: ?a160 :: ?a161 :: ?a162 :: ?a163 :: ?a164 :: ?r) => (?a0 :: ?a1 :: ?a2 :: ?a3 :: ?a4 :: ?a5 :: ?a6 :: ?a7 :: ?a8 :: ?a9 :: ?a10 :: ?a11 :: ?a12 :: ?a13 :: ?a14 :: ?a15 :: ?a16 :: ?a17 :: ?a18 :: ?a19 :: ?a20 :: ?a21 :: ?a22 :: ?a23 :: ?a24 :: ?a25 :: ?a26 :: ?a27 :: ?a28 :: ?a29 :: ?a30 :: ?a31 :: ?a32 :: ?a33 :: ?a34 :: ?a35 :: ?a36 :: ?a37 :: ?a38 :: ?a39 :: ?a40 :: ?a41 :: ?a42 :: ?a43 :: ?a44 :: ?a45 :: ?a46 :: ?a47 :: ?a48 :: ?a49 :: ?a50 :: ?a51 :: ?a52 :: ?a53 :: ?a54 :: ?a55 :: ?a56 :: ?a57 :: ?a58 :: ?a59 :: ?a60 :: ?a61 :: ?a62 :: ?a63 :: ?a64 :: ?a65 :: ?a66 :: ?a67 :: ?a68 :: ?a69 :: ?a70 :: ?a71 :: ?a72 :: ?a73 :: ?a74 :: ?a75 :: ?a76 :: ?a77 :: ?a78 :: ?a79 :: ?a80 :: ?a81 :: ?a82 :: ?a83 :: ?a84 :: ?a85 :: ?a86 :: ?a87 :: ?a88 :: ?a89 :: ?a90 :: ?a91 :: ?a92 :: ?a93 :: ?a94 :: ?a95 :: ?a96 :: ?a97 :: ?a98 :: ?a99 :: ?a100 :: ?a101 :: ?a102 :: ?a103 :: ?a104 :: ?a105 :: ?a106 :: ?a107 :: ?a108 :: ?a109 :: ?a110 :: ?a111 :: ?a112 :: ?a113 :: ?a114 :: ?a115 :: ?a116 :: ?a117 :: ?a118 :: ?a119 :: ?a120 :: ?a121 :: ?a122 :: ?a123 :: ?a124 :: ?a125 :: ?a126 :: ?a127 :: ?a128 :: ?a129 :: ?a130 :: ?a131 :: ?a132 :: ?a133 :: ?a134 :: ?a135 :: ?a136 :: ?a137 :: ?a138 :: ?a139 :: ?a140 :: ?a141 :: ?a142 :: ?a143 :: ?a144 :: ?a145 :: ?a146 :: ?a147 :: ?a148 :: ?a149 :: ?a150 :: ?a151 :: ?a152 :: ?a153 :: ?a154 :: ?a155 :: ?a156 :: ?a157 :: ?a158 :: ?a159 :: ?a160 :: ?a161 :: ?a162 :: ?a163 :: ?a164 :: [] : Frag)) ?e
  case e => exact rfl
end
section
open PySem PySem.W PyProof.Rows
inductive Pick (p : Addr × Obj) : List (Addr × Obj) → List (Addr × Obj) → Prop
  | head {r} : Pick p (p :: r) r
  | tail {q r r'} : Pick p r r' → Pick p (q :: r) (q :: r')
theorem Pick.sub {p : Addr × Obj} : ∀ {l l' : List (Addr × Obj)}, Pick p l l' → ∀ q ∈ p :: l', q ∈ l
  | _, _, .head => fun q h => h
  | _, _, .tail h => fun q hq => by
    rcases List.mem_cons.mp hq with rfl | hq
    · exact .tail _ (h.sub _ (.head _))
    · rcases List.mem_cons.mp hq with rfl | hq
      · exact .head _
      · exact .tail _ (h.sub _ (.tail _ hq))
theorem news_sub {h₀ h : Heap} {L : Addr} {news news' : List (Addr × Obj)} (N : News h₀ L h news') (hs : ∀ p ∈ news, p ∈ news') : News h₀ L h news := fun p hp => N p (hs p hp)

theorem fm_pos {a b : Int} (h : 0 < b) : 0 ≤ a.fmod b ∧ a.fmod b < b := ⟨Int.fmod_nonneg_of_pos a h, Int.fmod_lt_of_pos a h⟩
theorem fd_nn {a b : Int} (ha : 0 ≤ a) (h : 0 < b) : 0 ≤ a.fdiv b := by
  rw [Int.fdiv_eq_ediv_of_nonneg a (Int.le_of_lt h)]
  exact Int.ediv_nonneg ha (Int.le_of_lt h)
theorem take_mul {x e y : Int} : IntMulOk ([x, e.fmod 2147483647].getD (Int.toNat 1) 0) y :=
  IntMulOk.of_left (intBits_le_64 (by have := fm_pos (a := e) (b := 2147483647) (by decide); show _ < e.fmod 2147483647; omega) (by have := fm_pos (a := e) (b := 2147483647) (by decide); show e.fmod 2147483647 < _; omega))

section
variable {prog : Program} {w : World} {p : Program} {loose : List Str} {mean : ExcName → Option Value} {mg mb : Str → Option Value}
    {dp un : Nat} {gd : Option (List Code)} {cn : Str} {cs : Scope} {a : Addr} {ccd : Value} {cl : List (Str × Addr)} {outer : List Env} {A₀ : Around} {base h₀ : Heap} {L : Addr} {m : Str → Option Value} {s : Shared} {Q E : Value → Shared → Prop}

local macro_rules | `(tactic| mul_fits) => `(tactic| exact take_mul)
local macro_rules | `(tactic| k_all) => `(tactic| with_reducible assumption)

theorem take_spec0 {so : Addr} {x y top : Int} {tx ty tt : Tok} {n : Nat} {rest : List (Addr × Obj)}
    (B : Below A₀ base outer h₀) (F : Fr h₀ L s.heap m) (X : (Kc w.params).In h₀) (T : Top p loose mean mg mb h₀) (hk : cs.kind = .function)
    (N : News h₀ L s.heap ((so, listOf #[.int x tx, .int y ty] n) :: rest))
    (hne : ∀ p ∈ rest, p.1 ≠ so) (hx : 0 ≤ x) (hy : 0 ≤ y) (hy2 : y < 2147483647) (ht : 1 ≤ top) (ht2 : top ≤ 1000)
    (hdp : dp + 2 < recursionLimit) (hun : un + 24 < cLine)
    (ret : ∀ d t x' y' tx' ty' n' h' tk', Fr h₀ L h' m → News h₀ L h' ((so, listOf #[.int x' tx', .int y' ty'] n') :: rest) → 0 ≤ d → d < top → 0 ≤ x' → 0 ≤ y' → y' < 2147483647 → Q (.int d t) { s with heap := h', toks := tk' }) :
    wpAny (model prog w) (ktrTop dp un gd cn cs L a ccd cl outer) (call (.ref 209) [.ref so, .int top tt]) Q E s := by
  have hfill : (fun (_ : OpenLaw) (_ : Params → Frag) => True) PySem.Challenge.rw_nz0245_01 Kc := by k_fill; trivial
  clear hfill
  refine wpAny_call ?_
  k_dflt cell_enter
  k_steps
  all_goals refine ret _ _ _ _ _ _ _ _ _ (by k_asm) (by k_asm) (fm_pos (by omega)).1 (fm_pos (by omega)).2 ?_ ?_ ?_
  · exact fd_nn (by show 0 ≤ x; omega) (by omega)
  · exact hy
  · exact hy2
  · show 0 ≤ x; omega
  · exact (fm_pos (by decide)).1
  · exact (fm_pos (by decide)).2
end

/-- the source's object: two ints, the first not below nought, the second a residue -/
def SrcObj (o : Obj) : Prop := ∃ x y tx ty n, o = listOf #[.int x tx, .int y ty] n ∧ 0 ≤ x ∧ 0 ≤ y ∧ y < 2147483647

section
variable {prog : Program} {w : World} {p : Program} {loose : List Str} {mean : ExcName → Option Value} {mg mb : Str → Option Value}
    {dp un : Nat} {gd : Option (List Code)} {cn : Str} {cs : Scope} {a : Addr} {ccd : Value} {cl : List (Str × Addr)} {outer : List Env} {A₀ : Around} {base h₀ : Heap} {L : Addr} {m : Str → Option Value} {s : Shared} {Q E : Value → Shared → Prop}
theorem take_spec {so : Addr} {o : Obj} {top : Int} {tt : Tok} {news rest : List (Addr × Obj)}
    (B : Below A₀ base outer h₀) (F : Fr h₀ L s.heap m) (X : (Kc w.params).In h₀) (T : Top p loose mean mg mb h₀) (hk : cs.kind = .function)
    (N : News h₀ L s.heap news) (hp : Pick (so, o) news rest) (ho : SrcObj o)
    (hne : ∀ p ∈ rest, p.1 ≠ so) (ht : 1 ≤ top) (ht2 : top ≤ 1000)
    (hdp : dp + 2 < recursionLimit) (hun : un + 24 < cLine)
    (ret : ∀ d t o' h' tk', Fr h₀ L h' m → News h₀ L h' ((so, o') :: rest) → SrcObj o' → 0 ≤ d → d < top → Q (.int d t) { s with heap := h', toks := tk' }) :
    wpAny (model prog w) (ktrTop dp un gd cn cs L a ccd cl outer) (call (.ref 209) [.ref so, .int top tt]) Q E s := by
  obtain ⟨x, y, tx, ty, n, rfl, h1, h2, h3⟩ := ho
  exact take_spec0 B F X T hk (news_sub N hp.sub) hne h1 h2 h3 ht ht2 hdp hun fun d t x' y' tx' ty' n' h' tk' F' N' a1 a2 a3 a4 a5 => ret d t _ h' tk' F' N' ⟨x', y', tx', ty', n', rfl, a3, a4, a5⟩ a1 a2
end
end
section
open PySem PySem.Calls PySem.W PyProof.Rows
section
variable {prog : Program} {w : World} {p : Program} {loose : List Str} {mean : ExcName → Option Value} {mg mb : Str → Option Value}
    {dp un : Nat} {gd : Option (List Code)} {cn : Str} {cs : Scope} {a : Addr} {ccd : Value} {cl : List (Str × Addr)} {outer : List Env} {A₀ : Around} {base h₀ : Heap} {L : Addr} {m : Str → Option Value} {s : Shared} {Q E : Value → Shared → Prop}

local macro_rules | `(tactic| k_all) => `(tactic| with_reducible assumption)
local macro_rules | `(tactic| k_upd) => `(tactic| first | exact Pick.head | (refine' Pick.tail ?_; k_upd))
local macro_rules | `(tactic| walk_at "call ref") => `(tactic| (k_here; k_dflt (refine' take_spec ?k1 ?k2 ?k3 ?k4 ?k5 ?k6 ?k7 ?k8 ?k9 ?k10 ?k11 ?k12 ?k13 ?_; (case k1 => k_asm); (case k2 => k_asm); (case k3 => k_asm); (case k4 => k_asm); (case k5 => first | exact rfl | assumption); (case k6 => k_asm); (case k7 => k_upd); (case k8 => assumption); (case k9 => k_all); (case k10 => l_fact); (case k11 => l_fact); (case k12 => ktr_room); (case k13 => ktr_units)); intro d' t' o' h' tk' F' N' hs' hd0' hd1'; (try dsimp only); (try k_fold)))

local macro_rules | `(tactic| k_mem) => `(tactic| first | assumption | exact List.mem_cons_self | (refine' List.mem_cons_of_mem _ ?_; k_mem))
theorem my_item {value slice : PySem.Expr} {l : Addr} {vs : Array Value} {k : Int} {u : Tok}
    (hl : s.heap.IsList l vs) (h0 : 0 ≤ k) (hhi : k < 2 ^ 63) (hk : k.toNat < vs.size) (h : ∀ v, vs[k.toNat]? = some v → Q v s)
    (hs : subscripted slice false (.ref l) (.int k u) = operate [.ref l, .int k u] (getItem (.ref l) (.int k u)) := by with_unfolding_all rfl) :
    wpAny (model prog w) A₀ (subscriptTail value slice (.ref l) (.int k u)) Q E s :=
  tail_any hl.typeIs slot_list_getitem.lookup (wpAny_getItem_list hl h0 hhi (Array.getElem?_eq_getElem hk) (h _ (Array.getElem?_eq_getElem hk))) hs
local macro_rules | `(tactic| walk_at "call builtin:len") => `(tactic| (k_here; (with_reducible show wpAny _ _ (call (Value.builtin "len") [Value.ref _]) _ _ _); k_dflt (refine' len_list (News.isList ?N ?q) ?h ?_; (case N => k_asm); (case q => k_mem); (case h => omega); k_whole)))
local macro_rules | `(tactic| walk_at "subscriptTail") => `(tactic| (k_here; (with_reducible show wpAny _ _ (subscriptTail _ _ (Value.ref _) (Value.int _ _)) _ _ _); k_dflt (refine' my_item (News.isList ?N ?q) ?h1 ?h2 ?h3 ?_ ?h4; (case N => k_asm); (case q => k_mem); (case h1 => omega); (case h2 => omega); (case h3 => omega); (case h4 => with_unfolding_all rfl); k_whole); intro v' hv'; (try dsimp only)))

theorem one_spec {so th : Addr} {o : Obj} {vs : Array Value} {n : Nat} {news rest : List (Addr × Obj)}
    (B : Below A₀ base outer h₀) (F : Fr h₀ L s.heap m) (X : (Kc w.params).In h₀) (T : Top p loose mean mg mb h₀) (hk : cs.kind = .function)
    (N : News h₀ L s.heap news) (hp : Pick (so, o) news rest) (ho : SrcObj o) (hth : (th, listOf vs n) ∈ rest) (hn1 : 1 ≤ vs.size) (hn2 : vs.size ≤ 1000)
    (hne : ∀ p ∈ rest, p.1 ≠ so)
    (hdp : dp + 3 < recursionLimit) (hun : un + 32 < cLine)
    (ret : ∀ (i : Nat) v o' h' tk', Fr h₀ L h' m → News h₀ L h' ((so, o') :: rest) → SrcObj o' → vs[i]? = some v → i < vs.size → Q v { s with heap := h', toks := tk' }) :
    wpAny (model prog w) (ktrTop dp un gd cn cs L a ccd cl outer) (call (.ref 216) [.ref so, .ref th]) Q E s := by
  have hfill : (fun (_ : OpenLaw) (_ : Params → Frag) => True) PySem.Challenge.rw_nz0245_01 Kc := by k_fill; trivial
  clear hfill
  have N1 := news_sub N hp.sub
  clear N hp
  refine wpAny_call ?_
  k_dflt cell_enter
  k_steps
  exact ret _ _ _ _ _ (by k_asm) (by k_asm) (by assumption) (by assumption) (by omega)
end
end
section
open PySem PySem.Calls PySem.W PyProof.Rows
section
variable {prog : Program} {w : World} {p : Program} {loose : List Str} {mean : ExcName → Option Value} {mg mb : Str → Option Value}
    {dp un : Nat} {gd : Option (List Code)} {cn : Str} {cs : Scope} {a : Addr} {ccd : Value} {cl : List (Str × Addr)} {outer : List Env} {A₀ : Around} {base h₀ : Heap} {L : Addr} {m : Str → Option Value} {s : Shared} {Q E : Value → Shared → Prop}


theorem pool_spec {l : Addr} {vs : List Value} {ns : List Int} {k : Int} {tk : Tok} {news : List (Addr × Obj)}
    (B : Below A₀ base outer h₀) (F : Fr h₀ L s.heap m) (X : (Kc w.params).In h₀) (T : Top p loose mean mg mb h₀) (hk : cs.kind = .function)
    (N : News h₀ L s.heap news) (hl : base.IsList l vs.toArray) (hi : IntsAre vs ns) (hfit : ns.length < 2 ^ 62) (hk0 : 0 ≤ k) (hk1 : k < 2)
    (hdp : dp + 2 < recursionLimit) (hun : un + 24 < cLine)
    (ret : ∀ so o' h' tk', Fr h₀ L h' m → News h₀ L h' ((so, o') :: news) → SrcObj o' → (∀ p ∈ news, p.1 < so) → Q (.ref so) { s with heap := h', toks := tk' }) :
    wpAny (model prog w) (ktrTop dp un gd cn cs L a ccd cl outer) (call (.ref 202) [.ref l, .int k tk]) Q E s := by
  have hfill : (fun (_ : OpenLaw) (_ : Params → Frag) => True) PySem.Challenge.rw_nz0245_01 Kc := by k_fill; trivial
  clear hfill
  refine wpAny_call ?_
  k_dflt cell_enter
  k_steps
  all_goals refine ret _ _ _ _ (by k_asm) (by k_asm) ⟨_, _, _, _, _, rfl, ?_, (fm_pos (by decide)).1, (fm_pos (by decide)).2⟩ (by assumption)
  all_goals exact Int.mul_nonneg (by split <;> omega) (by split <;> omega)
end
end
section
open PySem PySem.Calls PySem.W PyProof.Rows
/-- an object of an own exception class as `__new__` leaves it -/
abbrev excObj (C t : Addr) : Obj := { cls := .ref C, data := .fields #[.ref t, .none, .none, .none, .bool false, .none] }
abbrev tupObj (vs : List Value) : Obj := { cls := .type "tuple", data := .seq vs.toArray }
section
variable {prog : Program} {w : World} {A : Around} {R : Result → Shared → Prop} {E : Value → Shared → Prop} {h : Heap} {g : Array GenState} {d : Drawn} {t : Nat} {os : OsState}
variable {nm q : Str} {C N : Addr} {bs bm : List Value} {hdct : Bool} {sn : List Str} {sub : List Value} {ab : Bool} {col : Option Bool} {dd : Option Addr} {k0 k1 k2 k3 k5 : Option Value}

theorem fe_new {rest : List Value} (hcB : (Value.ref C :: bm).contains (.type "Exception") = true) (hcA : (Value.ref C :: bm).contains (.type "AttributeError") = false) (hcN : (Value.ref C :: bm).contains (.type "NameError") = false)
    (hC : h.get? C = some (excClassObj nm q C N bs bm hdct sn sub ab col dd k0 k1 k2 k3 k5 "Exception.__new__"))
    (hq : R (.ok (.ret (.ref (h.objs.size + 1)))) ⟨(h.push (tupObj rest)).push (excObj C h.objs.size), g, d, t, os⟩) (hrest : rest.length ≤ sizeLine := by size_fits) :
    codeAny (model prog w) A (.builtin "Exception.__new__" ⟨.ref C :: rest, []⟩) R ⟨h, g, d, t, os⟩ := by
  have Fn := PySem.F.excBase_Exception
  have hends := Fn.ends
  refine codeAny_builtinAt Fn.entry ?_
  unfold Builtin.«BaseException.__new__»
  refine PySem.wpAt_bind ?_
  show PySem.wpAt _ _ _ (stack >>= _) _ _ _
  refine PySem.wpAt_bind (PySem.wpAt_stack fun p below => PySem.wpAt_of_wpAny ?_)
  wp_walk
  refine PySem.wpAt_of_wpAny ?_
  rw [Fn.owner]
  repeat (first | with_reducible refine wpAny_madeHere_exc Fn.canon hC ?_ | with_reducible refine wpAny_loadPart_at hC ?_ | (with_reducible refine wpAny_isSubtype_exc hC ?_; first | rw [hcB] | rw [hcA] | rw [hcN]) | wp_step)
  show R _ _
  rw [Heap.size_push]
  exact hq

theorem fe_type_call {fI : Addr} {rest : List Value} {Q : PySem.Fin → Shared → Prop} (hcB : (Value.ref C :: bm).contains (.type "Exception") = true) (hcA : (Value.ref C :: bm).contains (.type "AttributeError") = false) (hcN : (Value.ref C :: bm).contains (.type "NameError") = false)
    (hC : h.get? C = some (excClassObj nm q C N bs bm hdct sn sub ab col dd k0 k1 k2 k3 k5 "Exception.__new__"))
    (hi : Looks (model prog w) h (typeLookup (.ref C) "__init__") (some (.ref fI))) (hb : ∀ self, Looks (model prog w) h (bindSpecial (.ref fI) self) (.ref fI, [self]))
    (hq : codeAny (model prog w) A (.call (.ref fI) ⟨.ref (h.objs.size + 1) :: rest, []⟩) (InitBack (h.objs.size + 1) fun r s' => match r with | .ok f => Q (.done f) s' | .error e => E e s') ⟨(h.push (tupObj rest)).push (excObj C h.objs.size), g, d, t, os⟩) (hrest : rest.length ≤ sizeLine := by size_fits) :
    wpAny (model prog w) A (Builtin.«type.__call__» ⟨.ref C :: rest, []⟩) Q E ⟨h, g, d, t, os⟩ := by
  have Fn := PySem.F.excBase_Exception
  repeat (first | with_reducible refine wpAny_loadPart_at hC ?_ | with_reducible refine wpAny_madeBy_exc hC ?_ | wp_step)
  refine codeAny_call_builtin_code (Code.quiet_builtin _ Fn.quiet) (wpAny_check_new_subU Fn (bmB := bm) (by rw [List.contains_cons] at hcB; simpa using hcB) OwnTail.base hC ?_)
  refine fe_new hcB hcA hcN hC ?_ hrest
  show wpAny _ _ _ _ _ _
  have k : ∀ b o, h.get? b = some o → ((h.push (tupObj rest)).push (excObj C h.objs.size)).get? b = some o := fun b o e => Heap.get?_push_of_some _ (Heap.get?_push_of_some _ e)
  have hC₁ := k _ _ hC
  have hx : ((h.push (tupObj rest)).push (excObj C h.objs.size)).get? (h.objs.size + 1) = some (excObj C h.objs.size) := by heap_get
  have hcC : (Value.ref C :: bm).contains (.ref C) = true := by simp
  have t1 : Looks (model prog w) ((h.push (tupObj rest)).push (excObj C h.objs.size)) (typeOf (.ref (h.objs.size + 1))) (.ref C) := (Looks.ld hx).andThen .now
  have s1 : Looks (model prog w) ((h.push (tupObj rest)).push (excObj C h.objs.size)) (isSubtype (.ref C) (.ref C)) true := fun A Q E s k' q => wpAny_isSubtype_exc (k' _ _ hC₁) (hcC ▸ q)
  have i1 := hi.keeps k
  have b1 := (hb (.ref (h.objs.size + 1))).keeps k
  unfold isInstance callSpecial? specialOf
  repeat (first | with_reducible refine wpAny_call ?_ | lk)
  refine codeAny_mono hq fun r s' z => ?_
  rcases r with e | (v | _ | _ | _) <;> first | exact z | exact z.elim | skip
  obtain ⟨rfl, z⟩ := z
  exact wpAny_pure (wpAny_pure z)
end
end
section
open PySem PySem.Calls PySem.W PyProof.Rows PySem.Builtin PySem.Builtin.ObjectAttr
section
variable {prog : Program} {w : World} {A : Around} {E : Value → Shared → Prop} {s : Shared} {K : Frag} {h₀ : Heap} {L : Addr} {m : Str → Option Value} {news : List (Addr × Obj)}
abbrev excObjD (C t d : Addr) : Obj := { cls := .ref C, dict := some d, data := .fields #[.ref t, .none, .none, .none, .bool false, .none] }
theorem fe_refuse (self : Value) (C P : Addr) : refuseLoop self "__setattr__" [.ref C, .ref P, .type "Exception", .type "BaseException", .type "object"] = pure () := by
  rw [refuseLoop_ref, refuseLoop_ref]
  exact PySem.F.store_Exception.passes self
theorem fe_set0 {e t C P : Addr} {cd : ClassData} {name : Str} {v : Value} {Q : Unit → Shared → Prop} (X : K.In s.heap) (he : s.heap.get? e = some (excObj C t))
    (hs : findIn K (.ref C) "__setattr__" = some (some (.builtin "object.__setattr__"))) (ha : findIn K (.ref C) name = some none)
    (hc : clsIn K C = some cd) (hmro : cd.mro = [.ref C, .ref P, .type "Exception", .type "BaseException", .type "object"]) (hd : cd.hasDict = true)
    (hq : Q () { s with heap := ((s.heap.push emptyDict).update e (fun o => { o with dict := some s.heap.objs.size })).update s.heap.objs.size (Obj.putName name (PyData.keyHash w.params name) (.str name (s.toks + 1)) v), toks := s.toks + 2 }) :
    wpAny (model prog w) A (setAttr (.ref e) name v) Q E s := by
  have I : InstAt s.heap e (excObj C t) C none := ⟨he, rfl, rfl, trivial⟩
  refine set_plain X I hs ?_
  have SF := PySem.F.store_object
  have hmr : Looks (model prog w) s.heap (mroOf (.ref C)) cd.mro := (looks_clsIn X hc).andThen .now
  have sub : Looks (model prog w) s.heap (isInstance (.ref e) (.type "object")) true := I.type.andThen (looks_mroIn X (by unfold mroIn; rw [hc, Option.bind_some, hmro]; rfl))
  refine codeAny_call_builtin SF.slot.plain SF.entry (@check_slot (model prog w) _ _ _ "object.__setattr__" "object" "__setattr__" (.ref e) [.str name s.toks, v] [] _ SF.kind SF.split sub (SF.args (.ref e) (.str name s.toks) v) ?_)
  rw [osa_eq, refuse_eq]
  refine wpAny_bind (wpAny_bind (Looks.here (s := { s with toks := s.toks + 1 }) I.type (wpAny_bind (Looks.here (s := { s with toks := s.toks + 1 }) hmr ?_))))
  rw [hmro, fe_refuse]
  refine wpAny_pure (wpAny_bind (Looks.here (s := { s with toks := s.toks + 1 }) I.type (wpAny_bind (Looks.here (s := { s with toks := s.toks + 1 }) (looks_findIn X ha) (wpAny_bind (Looks.here (s := { s with toks := s.toks + 1 }) (r := none) Looks.now ?_))))))
  show wpAny _ _ (storeInOwnDict (.ref e) (.ref C) (.str name s.toks) name v false) _ _ _
  refine wpAny_bind (wpAny_pure (wpAny_bind (wpAny_bind (wpAny_loadPart he (wpAny_bind (Looks.here (s := { s with toks := s.toks + 1 }) (looks_clsIn X hc) ?_))))))
  rw [hd]
  have he' := Heap.get?_push_of_some emptyDict he
  have ne : e ≠ s.heap.objs.size := Nat.ne_of_lt (Heap.lt_size he)
  have hD : ((s.heap.push emptyDict).update e (fun o => { o with dict := some s.heap.objs.size })).get? s.heap.objs.size = some emptyDict :=
    (Heap.get?_update_other _ _ ne).trans (Heap.get?_push_size _ rfl)
  refine wpAny_bind (wpAny_alloc (wpAny_bind (wpAny_update he' (wpAny_pure (a := some s.heap.objs.size) ?_))))
  refine wpAny_bind (wpAny_pure (wpAny_bind ?_))
  unfold nsSet
  refine wpAny_bind (wpAny_bind (wpAny_askSetting (wpAny_pure (wpAny_bind (wpAny_mkText (wpAny_bind (wpAny_loadPart hD ?_)))))))
  refine wpAny_updatePart hD ?_
  refine wpAny_bind (wpAny_lookBehind (Heap.get?_update_self _ hD rfl) (by first | rfl | (show Data.pastItsLine _ = none; exact pastItsLine_dict (by rw [sizeLine_eq]; show (1 : Nat) ≤ _; omega))) ?_)
  exact wpAny_pure hq
theorem fe_setK {e t C P : Addr} {cd : ClassData} {name : Str} {v : Value} {gg : Obj → List (Addr × Obj)} {Q : Unit → Shared → Prop} (F : Fr h₀ L s.heap m) (X₀ : K.In h₀) (N : News h₀ L s.heap news) (U : UpdF e (excObj C t) news gg)
    (hs : findIn K (.ref C) "__setattr__" = some (some (.builtin "object.__setattr__"))) (ha : findIn K (.ref C) name = some none)
    (hc : clsIn K C = some cd) (hmro : cd.mro = [.ref C, .ref P, .type "Exception", .type "BaseException", .type "object"]) (hd : cd.hasDict = true)
    (k : ∀ d h', Fr h₀ L h' m → News h₀ L h' (gg (excObjD C t d)) → Q () { s with heap := h', toks := s.toks + 2 }) :
    wpAny (model prog w) A (setAttr (.ref e) name v) Q E s := by
  obtain ⟨pre, post, rfl, hg, a, b⟩ := U.split
  have he := (N (e, excObj C t) (by simp)).1
  have lt : ∀ p ∈ pre ++ (e, excObj C t) :: post, p.1 < s.heap.objs.size := fun p hp => Heap.lt_size (N p hp).1
  refine fe_set0 (X₀.keeps F.keep) he hs ha hc hmro hd ?_
  have N1 : News h₀ L (s.heap.push emptyDict) (((s.heap.objs.size, emptyDict) :: pre) ++ (e, excObj C t) :: post) := N.push F emptyDict
  obtain ⟨F2, N2⟩ := news_upd (o' := excObjD C t s.heap.objs.size) (f := fun o => { o with dict := some s.heap.objs.size }) (F.push emptyDict) N1
    (fun p hp => by rcases List.mem_cons.mp hp with rfl | hp; exact Nat.ne_of_gt (lt (e, excObj C t) (by simp)); exact a p hp) b rfl rfl
  have N2' : News h₀ L ((s.heap.push emptyDict).update e (fun o => { o with dict := some s.heap.objs.size })) ([] ++ (s.heap.objs.size, emptyDict) :: (pre ++ (e, excObjD C t s.heap.objs.size) :: post)) := N2
  obtain ⟨F3, N3⟩ := news_upd (o' := Obj.putName name (PyData.keyHash w.params name) (.str name (s.toks + 1)) v emptyDict) (f := Obj.putName name (PyData.keyHash w.params name) (.str name (s.toks + 1)) v) F2 N2' (fun _ h => nomatch h)
    (fun p hp => by
      rcases List.mem_append.mp hp with hp | hp
      · exact Nat.ne_of_lt (lt p (List.mem_append_left _ hp))
      · rcases List.mem_cons.mp hp with rfl | hp
        · exact Nat.ne_of_lt (lt (e, excObj C t) (by simp))
        · exact Nat.ne_of_lt (lt p (List.mem_append_right _ (.tail _ hp)))) rfl rfl
  exact k _ _ F3 (by rw [hg]; exact fun p hp => N3 p (.tail _ hp))
end
end
section
open PySem PySem.Calls PySem.W PyProof.Rows
section
variable {prog : Program} {w : World} {A : Around} {E : Value → Shared → Prop} {h : Heap} {g : Array GenState} {d : Drawn} {t : Nat} {os : OsState}
variable {nm q : Str} {C N : Addr} {bs bm : List Value} {hdct : Bool} {sn : List Str} {sub : List Value} {ab : Bool} {col : Option Bool} {dd : Option Addr} {k0 k1 k2 k3 k5 : Option Value}
theorem fe_call0 {fI : Addr} {rest : List Value} {Q : Value → Shared → Prop} (hcB : (Value.ref C :: bm).contains (.type "Exception") = true) (hcA : (Value.ref C :: bm).contains (.type "AttributeError") = false) (hcN : (Value.ref C :: bm).contains (.type "NameError") = false)
    (hC : h.get? C = some (excClassObj nm q C N bs bm hdct sn sub ab col dd k0 k1 k2 k3 k5 "Exception.__new__"))
    (hi : Looks (model prog w) h (typeLookup (.ref C) "__init__") (some (.ref fI))) (hb : ∀ self, Looks (model prog w) h (bindSpecial (.ref fI) self) (.ref fI, [self]))
    (hq : codeAny (model prog w) (A.under (.builtin "type.__call__" ⟨.ref C :: rest, []⟩)) (.call (.ref fI) ⟨.ref (h.objs.size + 1) :: rest, []⟩) (InitBack (h.objs.size + 1) fun r s' => match r with | .ok (.ret v) => Q v s' | .ok _ => False | .error e => E e s') ⟨(h.push (tupObj rest)).push (excObj C h.objs.size), g, d, t, os⟩) (hrest : rest.length ≤ sizeLine := by size_fits) :
    wpAny (model prog w) A (call (.ref C) rest) Q E ⟨h, g, d, t, os⟩ := by
  have f1 := tc_lookup
  have f2 := tc_bind (.ref C)
  have hT : (⟨h, g, d, t, os⟩ : Shared).TypeIs (.ref C) "type" := ⟨_, hC, rfl⟩
  refine wpAny_call (codeAny_of_tree ?_)
  show wpAny _ _ (callAny (.ref C) _) _ _ _
  repeat (any_goals (first | assumption | with_reducible refine wpAny_loadPart_at hC ?_ | wp_step))
  refine ⟨rfl, ?_⟩
  refine codeAny_call_builtin_at (Code.quiet_builtin _ (by decide +kernel)) entry_typeCall (wpAny_check_type_call_sub hC (fe_type_call (hrest := hrest) hcB hcA hcN hC hi hb ?_))
  refine codeAny_mono hq fun r s' z => ?_
  rcases r with e | (v | _ | _ | _) <;> exact z
end
section
variable {prog : Program} {w : World} {A : Around} {E : Value → Shared → Prop} {s : Shared} {K : Frag} {h₀ : Heap} {L : Addr} {m : Str → Option Value} {news : List (Addr × Obj)} {Q : Value → Shared → Prop}
variable {nm q : Str} {C N : Addr} {bs bm : List Value} {hdct : Bool} {sn : List Str} {sub : List Value} {ab : Bool} {col : Option Bool} {dd : Option Addr} {k0 k1 k2 k3 k5 : Option Value}
theorem fe_callK {fI : Addr} {rest : List Value} (F : Fr h₀ L s.heap m) (X₀ : K.In h₀) (Nw : News h₀ L s.heap news)
    (hl : K.lookup C = some (excClassObj nm q C N bs bm hdct sn sub ab col dd k0 k1 k2 k3 k5 "Exception.__new__"))
    (hi : findIn K (.ref C) "__init__" = some (some (.ref fI))) (hf : isFn K (.ref fI) = true)
    (hcB : (Value.ref C :: bm).contains (.type "Exception") = true) (hcA : (Value.ref C :: bm).contains (.type "AttributeError") = false) (hcN : (Value.ref C :: bm).contains (.type "NameError") = false)
    (k : ∀ e t h', Fr h₀ L h' m → News h₀ L h' ((e, excObj C t) :: (t, tupObj rest) :: news) → (∀ p ∈ news, p.1 < t) → t < e →
      codeAny (model prog w) (A.under (.builtin "type.__call__" ⟨.ref C :: rest, []⟩)) (.call (.ref fI) ⟨.ref e :: rest, []⟩) (InitBack e fun r s' => match r with | .ok (.ret v) => Q v s' | .ok _ => False | .error e => E e s') { s with heap := h' })
    (hrest : rest.length ≤ sizeLine := by size_fits) : wpAny (model prog w) A (call (.ref C) rest) Q E s := by
  have X := X₀.keeps F.keep
  obtain ⟨h, g, d, t, os⟩ := s
  have N' := (Nw.push F (tupObj rest)).push (F.push _) (excObj C h.objs.size)
  rw [Heap.size_push] at N'
  exact fe_call0 hcB hcA hcN (X _ _ hl) (looks_findIn X hi) (fun self => bind_fn X self (beq_iff_eq.mp hf)) (k _ h.objs.size _ ((F.push _).push _) N' (fun p hp => Heap.lt_size (Nw p hp).1) (Nat.lt_succ_self _)) hrest
end
section
variable {prog : Program} {w : World} {A : Around} {E : Value → Shared → Prop} {s : Shared} {K : Frag} {h₀ : Heap} {L : Addr} {m : Str → Option Value} {news : List (Addr × Obj)}
theorem fe_init_check {M : Model} {e : Addr} {oe : Obj} {nm q : Str} {C N : Addr} {bs bm : List Value} {hdct : Bool} {sn : List Str} {sub : List Value} {ab : Bool} {col : Option Bool} {dd : Option Addr} {k0 k1 k2 k3 k5 : Option Value} {newId : String} {rest : List Value} {g : Array GenState} {d : Drawn} {tk : Nat} {os : OsState} {h : Heap} {Q : Unit → Shared → Prop} (hC : h.get? C = some (excClassObj nm q C N bs bm hdct sn sub ab col dd k0 k1 k2 k3 k5 newId)) (hcB : (Value.ref C :: bm).contains (.type "Exception") = true) (he : h.get? e = some oe) (hcls : oe.cls = .ref C) (hq : Q () ⟨h, g, d, tk, os⟩) :
    wpAny M A (checkBuiltinCall "Exception.__init__" ⟨.ref e :: rest, []⟩) Q E ⟨h, g, d, tk, os⟩ := by
  have Fn := PySem.F.excBase_Exception
  have hshort := Fn.noStar
  simp only [checkBuiltinCall, Fn.initKind, Fn.initSplit, Fn.initRow]
  repeat (first | (with_reducible refine wpAny_loadPart_at he ?_; rw [hcls]) | with_reducible refine wpAny_loadPart_at hC ?_ | (with_reducible refine wpAny_isSubtype_exc hC ?_; rw [hcB]) | wp_step)
  refine wpAny_onRaise ?_
  rw [show ∀ (a b : String) (n : Nat), Bind.check ⟨.positional, "*", "Exception", .self, [⟨"args", .varPos, false⟩]⟩ a b n (List.map (fun x => x.fst) ({ pos := Value.ref e :: rest } : Args).kw) = pure () from
    fun a b n => check_star_args _ _ _ _ _ _]
  exact wpAny_pure hq
theorem fe_init {e t : Addr} {nm q : Str} {C N : Addr} {bs bm : List Value} {hdct : Bool} {sn : List Str} {sub : List Value} {ab : Bool} {col : Option Bool} {dd : Option Addr} {k0 k1 k2 k3 k5 : Option Value} {newId : String} {v : Value} {Q : Value → Shared → Prop} (X : K.In s.heap) (he : s.heap.get? e = some (excObj C t)) (hl : K.lookup C = some (excClassObj nm q C N bs bm hdct sn sub ab col dd k0 k1 k2 k3 k5 newId)) (hcB : (Value.ref C :: bm).contains (.type "Exception") = true)
    (hq : Q .none { s with heap := (s.heap.push (tupObj [v])).update e (Obj.mapFields (·.setIfInBounds 0 (.ref s.heap.objs.size))) }) :
    wpAny (model prog w) A (call (.builtin "Exception.__init__") [.ref e, v]) Q E s := by
  have Fn := PySem.F.excBase_Exception
  obtain ⟨h, g, d, tk, os⟩ := s
  refine wpAny_call (codeAny_call_builtin Fn.init.plain Fn.initEntry (fe_init_check (X _ _ hl) hcB he rfl ?_))
  have he' := Heap.get?_push_of_some (tupObj [v]) he
  unfold Builtin.«BaseException.__init__»
  wp_walk
  exact hq
theorem fe_initK {e t : Addr} {nm q : Str} {C N : Addr} {bs bm : List Value} {hdct : Bool} {sn : List Str} {sub : List Value} {ab : Bool} {col : Option Bool} {dd : Option Addr} {k0 k1 k2 k3 k5 : Option Value} {newId : String} {v : Value} {gg : Obj → List (Addr × Obj)} {Q : Value → Shared → Prop} (F : Fr h₀ L s.heap m) (X₀ : K.In h₀) (Nw : News h₀ L s.heap news) (U : UpdF e (excObj C t) news gg) (hl : K.lookup C = some (excClassObj nm q C N bs bm hdct sn sub ab col dd k0 k1 k2 k3 k5 newId)) (hcB : (Value.ref C :: bm).contains (.type "Exception") = true)
    (k : ∀ t2 h', Fr h₀ L h' m → News h₀ L h' ((t2, tupObj [v]) :: gg (excObj C t2)) → (∀ p ∈ news, p.1 < t2) → Q .none { s with heap := h' }) :
    wpAny (model prog w) A (call (.builtin "Exception.__init__") [.ref e, v]) Q E s := by
  obtain ⟨pre, post, rfl, hg, a, b⟩ := U.split
  have he := (Nw (e, excObj C t) (by simp)).1
  have lt : ∀ p ∈ pre ++ (e, excObj C t) :: post, p.1 < s.heap.objs.size := fun p hp => Heap.lt_size (Nw p hp).1
  refine fe_init (X₀.keeps F.keep) he hl hcB ?_
  have N1 : News h₀ L (s.heap.push (tupObj [v])) (((s.heap.objs.size, tupObj [v]) :: pre) ++ (e, excObj C t) :: post) := Nw.push F (tupObj [v])
  obtain ⟨F2, N2⟩ := news_upd (o' := excObj C s.heap.objs.size) (f := Obj.mapFields (·.setIfInBounds 0 (.ref s.heap.objs.size))) (F.push (tupObj [v])) N1
    (fun p hp => by rcases List.mem_cons.mp hp with rfl | hp; exact Nat.ne_of_gt (lt (e, excObj C t) (by simp)); exact a p hp) b rfl rfl
  exact k s.heap.objs.size _ F2 (by rw [hg]; exact N2) lt
end
section
variable {prog : Program} {w : World} {p : Program} {loose : List Str} {mean : ExcName → Option Value} {mg mb : Str → Option Value}
    {dp un : Nat} {gd : Option (List Code)} {cn : Str} {cs : Scope} {a : Addr} {ccd : Value} {cl : List (Str × Addr)} {outer : List Env} {A₀ : Around} {base h₀ : Heap} {L : Addr} {m : Str → Option Value} {s : Shared} {Q E : Value → Shared → Prop}
local macro_rules | `(tactic| k_all) => `(tactic| with_reducible assumption)
theorem fe_spec {x : Str} {tx : Tok} {news : List (Addr × Obj)}
    (B : Below A₀ base outer h₀) (F : Fr h₀ L s.heap m) (X : (Kc w.params).In h₀) (T : Top p loose mean mg mb h₀) (hk : cs.kind = .function)
    (N : News h₀ L s.heap news)
    (hdp : dp + 2 < recursionLimit) (hun : un + 24 < cLine)
    (ret : ∀ e t d h' tk', Fr h₀ L h' m → News h₀ L h' ((e, excObjD 51 t d) :: (t, tupObj [.str x tx]) :: news) → (∀ p ∈ news, p.1 < e) → e < t → Q (.ref e) { s with heap := h', toks := tk' }) :
    wpAny (model prog w) (ktrTop dp un gd cn cs L a ccd cl outer) (call (.ref 51) [.str x tx]) Q E s := by
  have hfill : (fun (_ : OpenLaw) (_ : Params → Frag) => True) PySem.Challenge.rw_nz0245_01 Kc := by k_fill; trivial
  clear hfill
  k_dflt (refine' fe_callK ?k1 ?k2 ?k3 ?k4 ?k5 ?k6 ?k7 ?k8 ?k9 ?_ ; (case k1 => k_asm); (case k2 => k_asm); (case k3 => k_asm); (case k4 => k_is); (case k5 => k_is); (case k6 => k_is); (case k7 => decide); (case k8 => decide); (case k9 => decide); k_whole)
  intro e t h' F' N' l1 l2
  have hne : ∀ p ∈ news, p.1 ≠ e := fun p hp => Nat.ne_of_lt (Nat.lt_trans (l1 p hp) l2)
  k_lt2 l2
  k_dflt cell_enter
  k_steps
  (with_reducible refine' method_type ?F ?X ?m (by decide +kernel) ?e ?h ?_)
  k_dflt ((case F => k_asm); (case X => k_asm); (case m => kernel_rfl); (case e => k_dflt k_is); (case h => k_handed))
  k_steps
  k_dflt (refine' fe_initK ?F ?X ?N ?U ?S ?S2 ?_; (case F => k_asm); (case X => k_asm); (case N => k_asm); (case U => k_updF); (case S => k_is); (case S2 => decide))
  intro t2 h' F' N' l1'
  k_lt l1'
  k_steps
  k_dflt (refine' fe_setK ?F ?X ?N ?U ?S ?S2 ?S3 ?S4 ?S5 ?_; (case F => k_asm); (case X => k_asm); (case N => k_asm); (case U => k_updF); (case S => k_is); (case S2 => k_is); (case S3 => k_is); (case S4 => rfl); (case S5 => rfl))
  intro d h' F' N'
  k_steps
  refine ret e t2 d h' _ (by k_asm) (news_sub (by assumption) fun p hp => ?_) (fun p hp => Nat.lt_trans (l1 p hp) l2) (by refine ltN ?_; omega)
  simp only [List.mem_cons] at hp ⊢
  rcases hp with rfl | rfl | hp
  · exact .inr (.inl rfl)
  · exact .inl rfl
  · exact .inr (.inr (.inr hp))
end
end
section
open PySem PySem.Calls PySem.W PyProof.Rows
/-- the exception stands made, and goes on -/
def FeDone (E : Value → Shared → Prop) (v : Value) (s₁ : Shared) : Prop := ∃ e t d, v = .ref e ∧ s₁.heap.get? e = some (excObjD 51 t d) ∧ E (.ref e) s₁
section
variable {M : Model} {A : Around} {E : Value → Shared → Prop} {s : Shared} {env : Env}
variable {nm q : Str} {C N : Addr} {bs bm : List Value} {hdct : Bool} {sn : List Str} {sub : List Value} {ab : Bool} {col : Option Bool} {dd : Option Addr} {k0 k1 k2 k3 k5 : Option Value} {newId : String}
theorem fe_raiseStmt {K : Frag} {h₀ : Heap} {x : Sem Value} {Q : Flow → Shared → Prop} (X₀ : K.In h₀) (hl : K.lookup 51 = some (excClassObj nm q 51 N bs bm hdct sn sub ab col dd k0 k1 k2 k3 k5 newId)) (hbase : bm.contains (.type "BaseException") = true) (hh : A.handled = none)
    (h : wpAny M A x (fun v s₁ => K.In s₁.heap ∧ FeDone E v s₁) E s) : wpAny M A (raiseStmt env (some x) none) Q E s := by
  have hcB : (Value.ref 51 :: bm).contains (.type "BaseException") = true := by rw [List.contains_cons, hbase, Bool.or_true]
  unfold raiseStmt
  refine wpAny_bind (wpAny_mono h (fun v s₁ h₁ => ?_) fun _ _ x => x)
  obtain ⟨X, e, t, d, rfl, he, hE⟩ := h₁
  have hC := X _ _ hl
  obtain ⟨hp, g, d, tk, os⟩ := s₁
  repeat (first | with_reducible refine wpAny_loadPart_at he ?_ | with_reducible refine wpAny_loadPart_at hC ?_ | (with_reducible refine wpAny_isSubtype_exc hC ?_; rw [hcB]) | wp_step)
  exact wpAny_raiseNew_none hh hE
theorem fe_exec_raise {K : Frag} {h₀ : Heap} {c : Expr} {pos : Pos} {Q : Flow → Shared → Prop} (X₀ : K.In h₀) (hl : K.lookup 51 = some (excClassObj nm q 51 N bs bm hdct sn sub ab col dd k0 k1 k2 k3 k5 newId)) (hbase : bm.contains (.type "BaseException") = true) (hh : A.handled = none)
    (h : wpAny M A (eval c env) (fun v s₁ => K.In s₁.heap ∧ FeDone E v s₁) E s) : wpAny M A (exec (.Raise (some c) none pos) env) Q E s := by
  rw [arm_exec_Raise]
  refine wpAny_bind (wpAny_standAt (fe_raiseStmt X₀ hl hbase hh ?_))
  exact wpAny_bind (wpAny_mono h (fun v s₃ h₃ => wpAny_bind (wpAny_standAt (wpAny_pure h₃))) fun _ _ x => x)
end
section
variable {M : Model} {A : Around} {E : Value → Shared → Prop} {s' : Shared} {base g : Heap} {outer : List Env} {L a e t d C : Addr} {m : Str → Option Value} {name : Str} {scope : Scope} {cd : Value} {Q : Unit → Shared → Prop} {news nw : List (Addr × Obj)}
theorem fe_leave {vs : List Value} (K : Below A base outer g) (F : Fr g L s'.heap m) (N : News g L s'.heap nw) (he : (e, excObjD C t d) ∈ nw) (ht : (t, tupObj vs) ∈ nw) (hs : ∀ q ∈ news, q ∈ nw ∧ q.1 ≠ e ∧ q.1 ≠ t)
    (hQ : ∀ h', RaisedK base outer e (.ref C) t vs news h' → g.UpToSlots h' → Q () { s' with heap := h' }) (hk : scope.kind = .function := by rfl) :
    wpAny M (A.deeper (envOf name scope L a cd)) (leaving (envOf name scope L a cd) (.ref e)) Q E s' := by
  have K' := K.push (name := name) (a := a) (cd := cd) F hk
  let as : List Addr := e :: t :: (envOf name scope L a cd :: outer).filterMap (·.frame)
  have hin : ∀ env ∈ (envOf name scope L a cd :: outer), ∀ b, env.frame = some b → b ∈ as := fun env he b hb => .tail _ (.tail _ (List.mem_filterMap.mpr ⟨env, he, hb⟩))
  have fresh : ∀ b o, base.get? b = some o → b ∉ as := fun b o q hm => by
    have qg := K.stays b o q
    rcases List.mem_cons.mp hm with rfl | hm
    · rw [(N _ he).2.2] at qg; cases qg
    · rcases List.mem_cons.mp hm with rfl | hm
      · rw [(N _ ht).2.2] at qg; cases qg
      · rw [(K'.frames.mem hm).1] at q; cases q
  have st : base.StaysIn (hideAll s'.heap as) := fun b o q => hideAll_get _ (K'.stays b o q) (fresh b o q)
  have hl : ∀ q ∈ news, (hideAll s'.heap as).get? q.1 = some q.2 ∧ base.get? q.1 = none := fun q hq => by
    obtain ⟨h1, h2, h3⟩ := hs q hq
    refine ⟨hideAll_get _ (N q h1).1 fun hm => ?_, fresh_of_stays K.stays (N q h1).2.2⟩
    rcases List.mem_cons.mp hm with e' | hm
    · exact h2 e'
    · rcases List.mem_cons.mp hm with e' | hm
      · exact h3 e'
      · obtain ⟨env, he, hf⟩ := List.mem_filterMap.mp hm
        rcases List.mem_cons.mp he with rfl | he
        · exact (N q h1).2.1 (Option.some.inj hf).symm
        · obtain ⟨o, ho, _⟩ := (K.frames.mem (List.mem_filterMap.mpr ⟨env, he, hf⟩)).2
          rw [(N q h1).2.2] at ho; cases ho
  have eN : (hideAll s'.heap as).get? e = none := hideAll_none _ (.head _)
  have tN : (hideAll s'.heap as).get? t = none := hideAll_none _ (.tail _ (.head _))
  refine wpAny_leaving_firstW (a0 := .ref t) K'.stack (funFrames_hide K'.frames hin) rfl (N _ he).1 (fun b o q => of_hideAll _ q) eN rfl rfl rfl fun h' hL => ?_
  obtain ⟨k1, ⟨_, _, k2⟩, k3, k4⟩ := hL
  exact hQ h' ⟨⟨_, st, hl, ⟨k1, eN, k2, k3⟩, tN⟩, Heap.TupAt.of_slots ⟨_, _, (N _ ht).1, rfl, rfl⟩ k4⟩ ((Heap.UpToSlots.of_keeps F.keep).trans k4)
theorem fe_leave1 {vs : List Value} (K : Below A base outer g) (F : Fr g L s'.heap m) (N : News g L s'.heap ((e, excObjD C t d) :: (t, tupObj vs) :: news)) (l1 : ∀ p ∈ news, p.1 < e) (l2 : @LT.lt Nat _ e t)
    (hQ : ∀ h', RaisedK base outer e (.ref C) t vs news h' → g.UpToSlots h' → Q () { s' with heap := h' }) (hk : scope.kind = .function := by rfl) :
    wpAny M (A.deeper (envOf name scope L a cd)) (leaving (envOf name scope L a cd) (.ref e)) Q E s' :=
  fe_leave K F N (.head _) (.tail _ (.head _)) (fun q hq => ⟨.tail _ (.tail _ hq), Nat.ne_of_lt (l1 q hq), Nat.ne_of_lt (Nat.lt_trans (l1 q hq) l2)⟩) hQ hk
end
theorem raisedK_sub {base : Heap} {l : List Env} {e t : Addr} {cls : Value} {vs : List Value} {news news' : List (Addr × Obj)} {h : Heap} (R : RaisedK base l e cls t vs news h) (hs : ∀ p ∈ news', p ∈ news) : RaisedK base l e cls t vs news' h :=
  let ⟨⟨B, h1, h2, h3⟩, h4⟩ := R
  ⟨⟨B, h1, fun q hq => h2 q (hs q hq), h3⟩, h4⟩
end
section
open PySem PySem.Calls PySem.W PyProof.Rows
structure Row4 where
  i : Int
  a : Int
  d : Int
  q : Int
def Row4.ok (r : Row4) : Prop := (0 ≤ r.i ∧ r.i ≤ 255) ∧ (1 ≤ r.a ∧ r.a ≤ 4) ∧ (1 ≤ r.d ∧ r.d ≤ 4) ∧ (0 ≤ r.q ∧ r.q ≤ 3)
/-- the attributes of a Component -/
abbrev compEs (h1 h2 h3 h4 : Int) (k1 k2 k3 k4 t1 t2 t3 t4 : Tok) (r : Row4) : List DictEntry :=
  [⟨h1, .str "ident" k1, .int r.i t1⟩, ⟨h2, .str "across" k2, .int r.a t2⟩, ⟨h3, .str "down" k3, .int r.d t3⟩, ⟨h4, .str "quant" k4, .int r.q t4⟩]

section
variable {prog : Program} {w : World} {p : Program} {loose : List Str} {mean : ExcName → Option Value} {mg mb : Str → Option Value}
    {dp un : Nat} {gd : Option (List Code)} {cn : Str} {cs : Scope} {a : Addr} {ccd : Value} {cl : List (Str × Addr)} {outer : List Env} {A₀ : Around} {base h₀ : Heap} {L : Addr} {m : Str → Option Value} {s : Shared} {Q E : Value → Shared → Prop}

local macro_rules | `(tactic| k_all) => `(tactic| with_reducible assumption)
local macro_rules | `(tactic| k_mem) => `(tactic| first | assumption | exact List.mem_cons_self | (refine' List.mem_cons_of_mem _ ?_; k_mem))
local macro_rules | `(tactic| walk_at "call ref") => `(tactic| (k_here; k_dflt (refine' fe_spec ?k1 ?k2 ?k3 ?k4 ?k5 ?k6 ?k12 ?k13 ?_; (case k1 => k_asm); (case k2 => k_asm); (case k3 => k_asm); (case k4 => k_asm); (case k5 => first | exact rfl | assumption); (case k6 => k_asm); (case k12 => ktr_room); (case k13 => ktr_units)); intro e' t' d' h' tk' F' N' l1 l2; (k_lt2 l2); (try dsimp only); (try k_fold)))
local macro_rules | `(tactic| walk_at "exec Raise some none") => `(tactic| (k_here; k_dflt (refine' fe_exec_raise ?k0 ?k1 ?k2 ?k3 ?_; (case k0 => k_asm); (case k1 => k_is); (case k2 => decide); (case k3 => rfl); k_whole)))
local macro_rules | `(tactic| walk_at "FeDone") => `(tactic| (k_here; refine' ⟨_, _, _, rfl, News.get ?k1 ?k2, ?_⟩; (case k1 => k_asm); (case k2 => k_mem)))
local macro_rules | `(tactic| walk_at "leaving ref") => `(tactic| (k_here; k_dflt (refine' fe_leave1 ?k1 ?k2 ?k3 ?k4 ?k5 ?_; (case k1 => k_asm); (case k2 => k_asm); (case k3 => k_asm); (case k4 => assumption); (case k5 => assumption)); intro h' R' U'))

theorem cc_spec {x dx : Addr} {h1 h2 h3 h4 : Int} {k1 k2 k3 k4 t1 t2 t3 t4 : Tok} {r : Row4} {n : Nat} {news : List (Addr × Obj)}
    (B : Below A₀ base outer h₀) (F : Fr h₀ L s.heap m) (X : (Kc w.params).In h₀) (T : Top p loose mean mg mb h₀) (hk : cs.kind = .function)
    (N : News h₀ L s.heap news) (hx : (x, instObj 90 dx) ∈ news) (hdx : (dx, dictOf (compEs h1 h2 h3 h4 k1 k2 k3 k4 t1 t2 t3 t4 r) n) ∈ news)
    (hdp : dp + 3 < recursionLimit) (hun : un + 40 < cLine)
    (ok : r.ok → ∀ h' tk', Fr h₀ L h' m → News h₀ L h' news → Q .none { s with heap := h', toks := tk' })
    (bad : ¬ r.ok → ∀ e t vs g₂ h' tk', Fr h₀ L g₂ m → g₂.UpToSlots h' → RaisedK base (envX cn cs L a ccd cl :: outer) e (.ref 51) t vs news h' → E (.ref e) { s with heap := h', toks := tk' }) :
    wpAny (model prog w) (ktrTop dp un gd cn cs L a ccd cl outer) (call (.ref 181) [.ref x]) Q E s := by
  have hfill : (fun (_ : OpenLaw) (_ : Params → Frag) => True) PySem.Challenge.rw_nz0245_01 Kc := by k_fill; trivial
  clear hfill
  refine wpAny_call ?_
  k_dflt cell_enter
  k_steps
  · exact ok (by unfold Row4.ok; omega) _ _ (by k_asm) (by k_asm)
  all_goals exact bad (by unfold Row4.ok; omega) _ _ _ _ _ _ (by assumption) (by assumption) (by assumption)
end
end
section
open PySem PySem.Calls PySem.W PyProof.Rows
structure KRow where
  name : Str
  code : Int
  row : Addr
  pa : Addr
  ps : List Int
def kRows : List KRow := [⟨"baseline", 192, 55, 54, [8]⟩, ⟨"extended", 193, 57, 56, [8, 12]⟩, ⟨"progressive", 194, 59, 58, [8, 12]⟩, ⟨"lossless", 195, 61, 60, [2, 3, 4, 5, 6, 7, 8, 9, 10, 11, 12, 13, 14, 15, 16]⟩, ⟨"arith", 201, 63, 62, [8, 12]⟩, ⟨"arith progressive", 202, 65, 64, [8, 12]⟩]
section
variable {prog : Program} {w : World} {p : Program} {loose : List Str} {mean : ExcName → Option Value} {mg mb : Str → Option Value}
    {dp un : Nat} {gd : Option (List Code)} {cn : Str} {cs : Scope} {a : Addr} {ccd : Value} {cl : List (Str × Addr)} {outer : List Env} {A₀ : Around} {base h₀ : Heap} {L : Addr} {m : Str → Option Value} {s : Shared} {Q E : Value → Shared → Prop}

local macro_rules | `(tactic| k_all) => `(tactic| with_reducible assumption)
local macro_rules | `(tactic| k_mem) => `(tactic| first | assumption | exact List.mem_cons_self | (refine' List.mem_cons_of_mem _ ?_; k_mem))
local macro_rules | `(tactic| walk_at "call ref") => `(tactic| (k_here; k_dflt (refine' fe_spec ?k1 ?k2 ?k3 ?k4 ?k5 ?k6 ?k12 ?k13 ?_; (case k1 => k_asm); (case k2 => k_asm); (case k3 => k_asm); (case k4 => k_asm); (case k5 => first | exact rfl | assumption); (case k6 => k_asm); (case k12 => ktr_room); (case k13 => ktr_units)); intro e' t' d' h' tk' F' N' l1 l2; (k_lt2 l2); (try dsimp only); (try k_fold)))
local macro_rules | `(tactic| walk_at "exec Raise some none") => `(tactic| (k_here; k_dflt (refine' fe_exec_raise ?k0 ?k1 ?k2 ?k3 ?_; (case k0 => k_asm); (case k1 => k_is); (case k2 => decide); (case k3 => rfl); k_whole)))
local macro_rules | `(tactic| walk_at "FeDone") => `(tactic| (k_here; refine' ⟨_, _, _, rfl, News.get ?k1 ?k2, ?_⟩; (case k1 => k_asm); (case k2 => k_mem)))
local macro_rules | `(tactic| walk_at "leaving ref") => `(tactic| (k_here; k_dflt (refine' fe_leave1 ?k1 ?k2 ?k3 ?k4 ?k5 ?_; (case k1 => k_asm); (case k2 => k_asm); (case k3 => k_asm); (case k4 => assumption); (case k5 => assumption)); intro h' R' U'))

theorem str_eq_of {a k : Str} (h : (a == k) = true) : k = a := (beq_iff_eq.mp h).symm
theorem str_ne_of {a k : Str} (h : (a == k) = false) : k ≠ a := fun e => by rw [e] at h; simp at h
theorem my_endW {h' : Heap} {i : Addr} {o : Obj} {rest : (Str → Option Value) → List (Addr × Obj) → Prop} {s₁ : Shared} {tk : Nat} {m' : Str → Option Value} {news : List (Addr × Obj)} (F : Fr h₀ L h' m') (N : News h₀ L h' ((i, o) :: news)) (l1 : ∀ p ∈ news, p.1 < i) (r : rest m' news) :
    UnrEndW h₀ L s₁ [(i, o)] rest { s₁ with heap := h', toks := tk } :=
  ⟨h', tk, m', news, rfl, F, N, fun p hp q hq => by rw [List.mem_singleton.mp hq]; exact Nat.ne_of_lt (l1 p hp), r⟩
local macro_rules | `(tactic| walk_at "UnrEndW") => `(tactic| (refine my_endW (by assumption) (by assumption) (by assumption) ⟨by k_subL, ?_⟩))
local macro_rules | `(tactic| walk_at "exec For Name Name cons nil") => `(tactic| (k_here; (rename Fr _ _ _ _ => lF'); (with_unfolding_all refine' For_turnsG lF' ?g ?_; (case g => exact rfl); k_whole)))
theorem kr_spec {k : Str} {tk : Tok} {news : List (Addr × Obj)}
    (B : Below A₀ base outer h₀) (F : Fr h₀ L s.heap m) (X : (Kc w.params).In h₀) (T : Top p loose mean mg mb h₀) (hk : cs.kind = .function)
    (N : News h₀ L s.heap news) (hlen : k.length ≤ 1000)
    (hdp : dp + 3 < recursionLimit) (hun : un + 40 < cLine)
    (ok : ∀ r ∈ kRows, k = r.name → ∀ h' tk', Fr h₀ L h' m → News h₀ L h' news → Q (.ref r.row) { s with heap := h', toks := tk' })
    (bad : (∀ r ∈ kRows, k ≠ r.name) → ∀ e t vs g₂ h' tk', Fr h₀ L g₂ m → g₂.UpToSlots h' → RaisedK base (envX cn cs L a ccd cl :: outer) e (.ref 51) t vs news h' → E (.ref e) { s with heap := h', toks := tk' }) :
    wpAny (model prog w) (ktrTop dp un gd cn cs L a ccd cl outer) (call (.ref 167) [.str k tk]) Q E s := by
  have hfill : (fun (_ : OpenLaw) (_ : Params → Frag) => True) PySem.Challenge.rw_nz0245_01 Kc := by k_fill; trivial
  clear hfill
  refine wpAny_call ?_
  k_dflt cell_enter
  k_steps
  · exact ok ⟨"baseline", 192, 55, 54, [8]⟩ (.head _) (str_eq_of (by assumption)) _ _ (by k_asm) (news_sub (by assumption) fun p hp => .tail _ hp)
  · exact ok ⟨"extended", 193, 57, 56, [8, 12]⟩ (.tail _ (.head _)) (str_eq_of (by assumption)) _ _ (by k_asm) (news_sub (by assumption) fun p hp => .tail _ hp)
  · exact ok ⟨"progressive", 194, 59, 58, [8, 12]⟩ (.tail _ (.tail _ (.head _))) (str_eq_of (by assumption)) _ _ (by k_asm) (news_sub (by assumption) fun p hp => .tail _ hp)
  · exact ok ⟨"lossless", 195, 61, 60, [2, 3, 4, 5, 6, 7, 8, 9, 10, 11, 12, 13, 14, 15, 16]⟩ (.tail _ (.tail _ (.tail _ (.head _)))) (str_eq_of (by assumption)) _ _ (by k_asm) (news_sub (by assumption) fun p hp => .tail _ hp)
  · exact ok ⟨"arith", 201, 63, 62, [8, 12]⟩ (.tail _ (.tail _ (.tail _ (.tail _ (.head _))))) (str_eq_of (by assumption)) _ _ (by k_asm) (news_sub (by assumption) fun p hp => .tail _ hp)
  · exact ok ⟨"arith progressive", 202, 65, 64, [8, 12]⟩ (.tail _ (.tail _ (.tail _ (.tail _ (.tail _ (.head _)))))) (str_eq_of (by assumption)) _ _ (by k_asm) (news_sub (by assumption) fun p hp => .tail _ hp)
  · refine bad (fun r hr => ?_) _ _ _ _ _ _ (by assumption) (by assumption) (by assumption)
    simp only [kRows, List.mem_cons, List.not_mem_nil, or_false] at hr
    rcases hr with rfl | rfl | rfl | rfl | rfl | rfl <;> exact str_ne_of (by assumption)
theorem kc_spec {k : Int} {tk : Tok} {news : List (Addr × Obj)}
    (B : Below A₀ base outer h₀) (F : Fr h₀ L s.heap m) (X : (Kc w.params).In h₀) (T : Top p loose mean mg mb h₀) (hk : cs.kind = .function)
    (N : News h₀ L s.heap news)
    (hdp : dp + 3 < recursionLimit) (hun : un + 40 < cLine)
    (ok : ∀ r ∈ kRows, k = r.code → ∀ h' tk', Fr h₀ L h' m → News h₀ L h' news → ∀ tk, Q (.str r.name tk) { s with heap := h', toks := tk' })
    (bad : (∀ r ∈ kRows, k ≠ r.code) → ∀ e t vs g₂ h' tk', Fr h₀ L g₂ m → g₂.UpToSlots h' → RaisedK base (envX cn cs L a ccd cl :: outer) e (.ref 51) t vs news h' → E (.ref e) { s with heap := h', toks := tk' }) :
    wpAny (model prog w) (ktrTop dp un gd cn cs L a ccd cl outer) (call (.ref 174) [.int k tk]) Q E s := by
  have hfill : (fun (_ : OpenLaw) (_ : Params → Frag) => True) PySem.Challenge.rw_nz0245_01 Kc := by k_fill; trivial
  clear hfill
  refine wpAny_call ?_
  k_dflt cell_enter
  k_steps
  · exact ok ⟨"baseline", 192, 55, 54, [8]⟩ (.head _) (by first | assumption | (symm; assumption) | (simp only [decide_eq_true_eq] at *; omega)) _ _ (by k_asm) (news_sub (by assumption) fun p hp => .tail _ hp) _
  · exact ok ⟨"extended", 193, 57, 56, [8, 12]⟩ (.tail _ (.head _)) (by first | assumption | (symm; assumption) | (simp only [decide_eq_true_eq] at *; omega)) _ _ (by k_asm) (news_sub (by assumption) fun p hp => .tail _ hp) _
  · exact ok ⟨"progressive", 194, 59, 58, [8, 12]⟩ (.tail _ (.tail _ (.head _))) (by first | assumption | (symm; assumption) | (simp only [decide_eq_true_eq] at *; omega)) _ _ (by k_asm) (news_sub (by assumption) fun p hp => .tail _ hp) _
  · exact ok ⟨"lossless", 195, 61, 60, [2, 3, 4, 5, 6, 7, 8, 9, 10, 11, 12, 13, 14, 15, 16]⟩ (.tail _ (.tail _ (.tail _ (.head _)))) (by first | assumption | (symm; assumption) | (simp only [decide_eq_true_eq] at *; omega)) _ _ (by k_asm) (news_sub (by assumption) fun p hp => .tail _ hp) _
  · exact ok ⟨"arith", 201, 63, 62, [8, 12]⟩ (.tail _ (.tail _ (.tail _ (.tail _ (.head _))))) (by first | assumption | (symm; assumption) | (simp only [decide_eq_true_eq] at *; omega)) _ _ (by k_asm) (news_sub (by assumption) fun p hp => .tail _ hp) _
  · exact ok ⟨"arith progressive", 202, 65, 64, [8, 12]⟩ (.tail _ (.tail _ (.tail _ (.tail _ (.tail _ (.head _)))))) (by first | assumption | (symm; assumption) | (simp only [decide_eq_true_eq] at *; omega)) _ _ (by k_asm) (news_sub (by assumption) fun p hp => .tail _ hp) _
  · refine bad (fun r hr => ?_) _ _ _ _ _ _ (by assumption) (by assumption) (by assumption)
    simp only [kRows, List.mem_cons, List.not_mem_nil, or_false] at hr
    rcases hr with rfl | rfl | rfl | rfl | rfl | rfl <;> (simp only [decide_eq_false_iff_not] at *; omega)
end
theorem kRow_tup {w : World} {h : Heap} (X : (Kc w.params).In h) {r : KRow} (hr : r ∈ kRows) :
    ∃ t1 t2 vs, IsTup h r.row #[.str r.name t1, .int r.code t2, .ref r.pa] ∧ IsTup h r.pa (List.toArray vs) ∧ IntsAre vs r.ps := by
  have hfill : (fun (_ : OpenLaw) (_ : Params → Frag) => True) PySem.Challenge.rw_nz0245_01 Kc := by k_fill; trivial
  clear hfill
  simp only [kRows, List.mem_cons, List.not_mem_nil, or_false] at hr
  rcases hr with rfl | rfl | rfl | rfl | rfl | rfl
  all_goals refine ⟨_, _, _, tupK (l := [_, _, _]) X (by k_dflt k_is), tupK X (by k_dflt k_is), ?_⟩
  all_goals repeat (first | exact .nil | refine .cons _ _ ?_)
end
section
open PySem PySem.Calls PySem.W PyProof.Rows
section
variable {prog : Program} {w : World} {A : Around} {E : Value → Shared → Prop} {s : Shared} {env : Env} {h₀ : Heap} {x : Str} {body : List Stmt} {Q : Flow → Shared → Prop}

def TEnd (h₀ : Heap) (L I : Addr) (own : List (Addr × Obj)) (J : (Str → Option Value) → List (Addr × Obj) → Prop) (s₁ s₂ : Shared) : Prop :=
  ∃ h' tk m' news', s₂ = { s₁ with heap := h', toks := tk } ∧ Fr h₀ L h' m' ∧ News h₀ L h' (own ++ news') ∧ (∀ q ∈ news', q.1 ≠ I) ∧ J m' news'
def TPost (h₀ : Heap) (L I : Addr) (own : List (Addr × Obj)) (J : (Str → Option Value) → List (Addr × Obj) → Prop) (s₁ : Shared) (Q : Flow → Shared → Prop) (f : Flow) (s₂ : Shared) : Prop :=
  match f with
  | .ret v => Q (.ret v) s₂
  | .brk => Q .next s₂
  | _ => TEnd h₀ L I own J s₁ s₂
theorem TEnd.intro {L I : Addr} {own all news' : List (Addr × Obj)} {J : (Str → Option Value) → List (Addr × Obj) → Prop} {s₁ : Shared} {h' : Heap} {tk : Nat} {m' : Str → Option Value}
    (F : Fr h₀ L h' m') (N : News h₀ L h' all) (sub : ∀ p ∈ own ++ news', p ∈ all) (off : ∀ q ∈ news', q.1 ≠ I) (r : J m' news') : TEnd h₀ L I own J s₁ { s₁ with heap := h', toks := tk } :=
  ⟨h', tk, m', news', rfl, F, fun p hp => N p (sub p hp), off, r⟩

/-- a loop over a list, by what holds of the frame's map and of the ledger between the turns -/
theorem loopL {l : Addr} {items : Array Value} {m₀ : Str → Option Value} {news : List (Addr × Obj)} (J : Nat → (Str → Option Value) → List (Addr × Obj) → Prop)
    (hh : A.handled = none) (hl : s.heap.IsList l items) (hlL : l ≠ env.locals) (F : Fr h₀ env.locals s.heap m₀) (N : News h₀ env.locals s.heap news) (hj : J 0 m₀ news)
    (turn : ∀ i v m₁ news₁ own I oI h tk, items[i]? = some v → J i m₁ news₁ → (∀ q ∈ news₁, q.1 ≠ I) → (∀ p ∈ own, p.1 = I ∨ p.1 = l) → (I, oI) ∈ own → Fr h₀ env.locals h (fun y => if y = x then some v else m₁ y) → News h₀ env.locals h (own ++ news₁) →
      wpAny (model prog w) A (execs body env) (TPost h₀ env.locals I own (J (i + 1)) { s with heap := h, toks := tk } Q) E { s with heap := h, toks := tk })
    (done : ∀ m₁ news₁ h tk, J items.size m₁ news₁ → Fr h₀ env.locals h m₁ → News h₀ env.locals h news₁ → Q .next { s with heap := h, toks := tk }) :
    wpAny (model prog w) A (pyIter (.ref l)) (fun it s₂ => LoopAtV prog w A h₀ env x body Q E it s₂) E s := by
  obtain ⟨ol, hol, hlr⟩ := id hl
  have hlt : l < s.heap.objs.size := Heap.lt_size hol
  have hne : l ≠ s.heap.objs.size := Nat.ne_of_lt hlt
  refine wpAny_pyIter_list hl ?_
  have W := Walks.list (prog := prog) (w := w) hh s.heap.objs.size l hne items
  have hnew : h₀.get? s.heap.objs.size = none := by
    cases q : h₀.get? s.heap.objs.size with
    | none => rfl
    | some o => exact absurd (Heap.lt_size (F.keep _ _ q)) (Nat.lt_irrefl _)
  refine ⟨_, _, _, items.size, _, _, m₀, news, J, rfl, W, ?_, ?_, ?_, ⟨⟨_, Heap.get?_push_size _ rfl, rfl, rfl⟩, hl.at fun o e => Heap.get?_push_of_some _ e⟩, F.push _, (fun p hp => ⟨Heap.get?_push_of_some _ (N p hp).1, (N p hp).2⟩), hj, ?_, ?_⟩
  · intro hm
    rcases List.mem_cons.mp hm with e | hm
    · exact absurd F.ns.lt (e ▸ Nat.lt_irrefl _)
    · exact hlL (List.mem_singleton.mp hm).symm
  · intro b hb
    rw [List.mem_singleton.mp hb]
    exact hnew
  · intro p hp hI
    exact absurd (Heap.lt_size (N p hp).1) ((List.mem_singleton.mp hI) ▸ Nat.lt_irrefl _)
  · rintro i v m₁ news₁ s₁ own ⟨hh', tk', rfl⟩ hin hP hJ hoff hown hget hall hst F₁ N₁
    obtain ⟨⟨oI, hoI, _⟩, _⟩ := hst
    have hI : (s.heap.objs.size, oI) ∈ own := hall _ (.head _) hnew _ hoI
    have off : ∀ q ∈ news₁, q.1 ≠ s.heap.objs.size := fun q hq e => hoff q hq (List.mem_singleton.mpr e)
    refine wpAny_mono (turn i v m₁ news₁ own s.heap.objs.size oI hh' tk' hP hJ off (fun p hp => by
      rcases List.mem_cons.mp (hown p hp) with h1 | h1
      · exact .inl h1
      · exact .inr (List.mem_singleton.mp h1)) hI F₁ N₁) (fun f s₂ p => ?_) fun _ _ e => e
    have fin : TEnd h₀ env.locals s.heap.objs.size own (J (i + 1)) { s with heap := hh', toks := tk' } s₂ → LoopStepU h₀ env.locals [s.heap.objs.size] own (J (i + 1)) { s with heap := hh', toks := tk' } .next s₂ := by
      rintro ⟨h', tk, m', news', e, F', N', hn, hm⟩
      exact ⟨rfl, h', tk, m', news', e, F', N', fun q hq e => hn q hq (List.mem_singleton.mp e), hm⟩
    cases f with
    | ret v => exact .ret p
    | brk => exact .brk p
    | next => exact .next (fin p)
    | cont => exact .cont (fin p)
  · rintro h' tk m' news' F' N' _ hJ
    exact done m' news' h' tk hJ F' N'
end
end
section
open PySem PySem.Calls PySem.W PyProof.Rows
/-- what a frame is let by -/
def LetBy (kind : Str) (prec hei wid : Int) (rows : List Row4) : Prop :=
  (∃ r ∈ kRows, kind = r.name ∧ prec ∈ r.ps) ∧ (1 ≤ hei ∧ hei ≤ 65535) ∧ (1 ≤ wid ∧ wid ≤ 65535) ∧ (1 ≤ rows.length ∧ rows.length ≤ 255) ∧ (∀ r ∈ rows, r.ok) ∧ (rows.map (·.i)).Nodup
theorem kRows_name : ∀ r ∈ kRows, ∀ r' ∈ kRows, r.name = r'.name → r = r' := by
  intro r hr r' hr' h
  simp only [kRows, List.mem_cons, List.not_mem_nil, or_false] at hr hr'
  rcases hr with rfl | rfl | rfl | rfl | rfl | rfl <;> rcases hr' with rfl | rfl | rfl | rfl | rfl | rfl <;> first | rfl | (exact absurd h (by decide +kernel))
theorem not_let_prec {kind : Str} {prec hei wid : Int} {rows : List Row4} {r : KRow} (hr : r ∈ kRows) (hk : kind = r.name) (h : (r.ps.any fun x => x == prec) = false) : ¬ LetBy kind prec hei wid rows := by
  rintro ⟨⟨r', hr', hk', hp⟩, _⟩
  have := kRows_name r hr r' hr' (hk.symm.trans hk')
  subst this
  have h2 : (r.ps.any fun x => x == prec) = true := List.any_eq_true.mpr ⟨prec, hp, beq_self_eq_true prec⟩
  rw [h2] at h; cases h
theorem mem_of_any {ps : List Int} {prec : Int} (h : (ps.any fun x => x == prec) = true) : prec ∈ ps := by
  obtain ⟨y, hy, e⟩ := List.any_eq_true.mp h
  rw [← eq_of_beq e]; exact hy
inductive All2 {α β : Type} (R : α → β → Prop) : List α → List β → Prop
  | nil : All2 R [] []
  | cons {a : α} {b : β} {l : List α} {l' : List β} : R a b → All2 R l l' → All2 R (a :: l) (b :: l')
theorem forall2_get {α β : Type} {R : α → β → Prop} : ∀ {l : List α} {l' : List β}, All2 R l l' → ∀ {i : Nat} {a : α}, l[i]? = some a → ∃ b, l'[i]? = some b ∧ R a b
  | _, _, .cons h _, 0, _, e => by cases e; exact ⟨_, rfl, h⟩
  | _, _, .cons _ t, i + 1, _, e => forall2_get t (i := i) (by simpa using e)
theorem forall2_len {α β : Type} {R : α → β → Prop} : ∀ {l : List α} {l' : List β}, All2 R l l' → l.length = l'.length
  | _, _, .nil => rfl
  | _, _, .cons _ t => by simp [forall2_len t]
end
section
open PySem PySem.Calls PySem.W PyProof.Rows
/-- the attributes of a Frame -/
abbrev frameEs (h1 h2 h3 h4 h5 h6 : Int) (k1 k2 k3 k4 k5 k6 t1 t2 t3 t4 t6 : Tok) (kind : Str) (prec hei wid n : Int) (cl : Addr) : List DictEntry :=
  [⟨h1, .str "kind" k1, .str kind t1⟩, ⟨h2, .str "precision" k2, .int prec t2⟩, ⟨h3, .str "height" k3, .int hei t3⟩, ⟨h4, .str "width" k4, .int wid t4⟩, ⟨h5, .str "components" k5, .ref cl⟩, ⟨h6, .str "n" k6, .int n t6⟩]
/-- a component stands in the ledger -/
def CompIn (news : List (Addr × Obj)) (v : Value) (r : Row4) : Prop :=
  ∃ x dx h1 h2 h3 h4 k1 k2 k3 k4 t1 t2 t3 t4 n, v = .ref x ∧ (x, instObj 90 dx) ∈ news ∧ (dx, dictOf (compEs h1 h2 h3 h4 k1 k2 k3 k4 t1 t2 t3 t4 r) n) ∈ news
section
variable {prog : Program} {w : World} {p : Program} {loose : List Str} {mean : ExcName → Option Value} {mg mb : Str → Option Value}
    {dp un : Nat} {gd : Option (List Code)} {cn : Str} {cs : Scope} {a : Addr} {ccd : Value} {cl : List (Str × Addr)} {outer : List Env} {A₀ : Around} {base h₀ : Heap} {L : Addr} {m : Str → Option Value} {s : Shared} {Q E : Value → Shared → Prop}

local macro_rules | `(tactic| k_all) => `(tactic| with_reducible assumption)
local macro_rules | `(tactic| k_mem) => `(tactic| first | assumption | exact List.mem_cons_self | (refine' List.mem_cons_of_mem _ ?_; k_mem))
local macro_rules | `(tactic| walk_at "call ref") => `(tactic| (k_here; k_dflt (refine' fe_spec ?k1 ?k2 ?k3 ?k4 ?k5 ?k6 ?k12 ?k13 ?_; (case k1 => k_asm); (case k2 => k_asm); (case k3 => k_asm); (case k4 => k_asm); (case k5 => first | exact rfl | assumption); (case k6 => k_asm); (case k12 => ktr_room); (case k13 => ktr_units)); intro e' t' d' h' tk' F' N' l1 l2; (k_lt2 l2); (try dsimp only); (try k_fold)))
local macro_rules | `(tactic| walk_at "exec Raise some none") => `(tactic| (k_here; k_dflt (refine' fe_exec_raise ?k0 ?k1 ?k2 ?k3 ?_; (case k0 => k_asm); (case k1 => k_is); (case k2 => decide); (case k3 => rfl); k_whole)))
local macro_rules | `(tactic| walk_at "FeDone") => `(tactic| (k_here; refine' ⟨_, _, _, rfl, News.get ?k1 ?k2, ?_⟩; (case k1 => k_asm); (case k2 => k_mem)))
local macro_rules | `(tactic| walk_at "leaving ref") => `(tactic| (k_here; k_dflt (refine' fe_leave1 ?k1 ?k2 ?k3 ?k4 ?k5 ?_; (case k1 => k_asm); (case k2 => k_asm); (case k3 => k_asm); (case k4 => assumption); (case k5 => assumption)); intro h' R' U'))

local macro_rules | `(tactic| walk_at "UnrEndW") => `(tactic| (refine my_endW (by assumption) (by assumption) (by assumption) ⟨by k_subL, ?_⟩))
local macro_rules | `(tactic| walk_at "exec For Name Name cons nil") => `(tactic| (k_here; (rename Fr _ _ _ _ => lF'); (with_unfolding_all refine' For_turnsG lF' ?g ?_; (case g => exact rfl); k_whole)))


local macro_rules | `(tactic| walk_at "call ref") => `(tactic| (k_here; k_dflt (refine' kr_spec ?k1 ?k2 ?k3 ?k4 ?k5 ?k6 ?k7 ?k12 ?k13 ?_ ?_; (case k1 => k_asm); (case k2 => k_asm); (case k3 => k_asm); (case k4 => k_asm); (case k5 => first | exact rfl | assumption); (case k6 => k_asm); (case k7 => assumption); (case k12 => ktr_room); (case k13 => ktr_units)); (intro r' hr' hk' h' tk' F' N'; obtain ⟨t1', t2', vs', hT1', hT2', hI'⟩ := kRow_tup (by assumption) hr'; (try dsimp only); (try k_fold))))
theorem item_tupB {value slice : PySem.Expr} {t : Addr} {l : List Value} {k : Int} {u : Tok} {j : Nat} {x : Value} {Q : Value → Shared → Prop} (F : Fr h₀ L s.heap m) (ht : IsTup h₀ t l.toArray)
    (hlo : -(2 ^ 63) ≤ k) (hhi : k < 2 ^ 63) (hj : seqIndex? k l.length = some j) (hx : l[j]? = some x) (h : Q x s)
    (hs : subscripted slice false (.ref t) (.int k u) = operate [.ref t, .int k u] (getItem (.ref t) (.int k u)) := by with_unfolding_all rfl) :
    wpAny (model prog w) A₀ (subscriptTail value slice (.ref t) (.int k u)) Q E s := item_tupleT (ht.keeps F.keep) hlo hhi hj hx h hs
local macro_rules | `(tactic| walk_at "last subscriptTail") => `(tactic| (k_here; (with_reducible show wpAny _ _ (subscriptTail _ _ (Value.ref _) (Value.int _ _)) _ _ _); k_dflt (refine' item_tupB (l := [_, _, _]) ?F ?T ?h1 ?h2 ?h3 ?h4 ?_ ?h5; (case F => k_asm); (case T => assumption); (case h1 => decide); (case h2 => decide); (case h3 => rfl); (case h4 => rfl); (case h5 => with_unfolding_all rfl); k_whole)))
local macro_rules | `(tactic| walk_at "call builtin:len") => `(tactic| (k_here; (with_reducible show wpAny _ _ (call (Value.builtin "len") [Value.ref _]) _ _ _); k_dflt (refine' len_list (News.isList ?N ?q) ?h ?_; (case N => k_asm); (case q => k_mem); (case h => omega); k_whole)))
local macro_rules | `(tactic| walk_at "call ref") => `(tactic| (k_here; k_dflt (refine' cc_spec ?k1 ?k2 ?k3 ?k4 ?k5 ?k6 ?k7 ?k8 ?k12 ?k13 ?_ ?_; (case k1 => k_asm); (case k2 => k_asm); (case k3 => k_asm); (case k4 => k_asm); (case k5 => first | exact rfl | assumption); (case k6 => k_asm); (case k7 => k_mem); (case k8 => k_mem); (case k12 => ktr_room); (case k13 => ktr_units)); intro ho' h' tk' F' N'; (try dsimp only); (try k_fold)))
local macro_rules | `(tactic| walk_at "setItem ref int") => `(tactic| (k_here; k_dflt (refine' setItem_K PyProof.V.same_int (intKind_is _ _ _ _) ?v ?F ?N ?U ?d ?f ?_ ?z; (case F => k_asm); (case N => k_asm); (case U => k_updF); (case d => k_asm); (case f => k_asm); (case v => k_flat); (case z => rw [sizeLine_eq]; omega)); intro h' o' F' N' hd' hf'; (try k_sweep)))
local macro_rules | `(tactic| walk_at "eval Name") => `(tactic| (k_here; k_dflt (refine' ld ?k1 ?k2 ?_; (case k1 => k_asm); (case k2 => first | exact rfl | assumption); k_whole)))
local macro_rules | `(tactic| walk_at "TPost") => `(tactic| (dsimp only [TPost]))

def KnownInv (prog : Program) (w : World) (kn : Addr) (news : List (Addr × Obj)) (rows : List Row4) (i : Nat) (m₁ : Str → Option Value) (news₁ : List (Addr × Obj)) : Prop :=
  m₁ "known" = some (.ref kn) ∧ ∃ o kvs D, news₁ = (kn, o) :: news ∧ Obj.IsDictOf (intKind prog w) o kvs ∧ PyProof.V.FlatPairs PyData.int kvs D ∧ D.length ≤ i ∧
    (∀ z : Int, (PySem.Spec.lookup (.int z) D).isSome = true ↔ z ∈ (rows.take i).map (·.i)) ∧ (∀ r ∈ rows.take i, r.ok) ∧ ((rows.take i).map (·.i)).Nodup
theorem take_succ_get {rows : List Row4} {i : Nat} {r : Row4} (hr : rows[i]? = some r) : rows.take (i + 1) = rows.take i ++ [r] := by rw [List.take_add_one, hr]; rfl
theorem not_let_bad {kind : Str} {prec hei wid : Int} {rows : List Row4} {i : Nat} {r : Row4} (hr : rows[i]? = some r) (h : ¬ r.ok) : ¬ LetBy kind prec hei wid rows :=
  fun hl => h (hl.2.2.2.2.1 r (List.mem_of_getElem? hr))
theorem not_let_dup {kind : Str} {prec hei wid : Int} {rows : List Row4} {i : Nat} {r : Row4} (hr : rows[i]? = some r) (h : r.i ∈ (rows.take i).map (·.i)) : ¬ LetBy kind prec hei wid rows := fun hl => by
  have hn := hl.2.2.2.2.2
  have e : rows.map (·.i) = (rows.take i).map (·.i) ++ ([r.i] ++ (rows.drop (i + 1)).map (·.i)) := by
    rw [show ([r.i] : List Int) = [r].map (·.i) from rfl, ← List.map_append, ← List.map_append, ← List.append_assoc, ← take_succ_get hr, List.take_append_drop]
  rw [e, List.nodup_append] at hn
  exact hn.2.2 _ h _ (by simp) rfl
theorem known_step {kn : Addr} {news : List (Addr × Obj)} {rows : List Row4} {i : Nat} {r : Row4} {m₁ : Str → Option Value} {o' : Obj} {kvs : List (Int × Value)} {D : List (PyData × PyData)} (hr : rows[i]? = some r) (hm : m₁ "known" = some (.ref kn))
    (hd : Obj.IsDictOf (intKind prog w) o' kvs) (hf : PyProof.V.FlatPairs PyData.int kvs (PyProof.V.putD (.int r.i) (.bool true) D)) (hD : D.length ≤ i) (hz : ∀ z : Int, (PySem.Spec.lookup (.int z) D).isSome = true ↔ z ∈ (rows.take i).map (·.i))
    (hok : ∀ r ∈ rows.take i, r.ok) (hnd : ((rows.take i).map (·.i)).Nodup) (h1 : r.ok) (h2 : ¬ r.i ∈ (rows.take i).map (·.i)) : KnownInv prog w kn news rows (i + 1) m₁ ((kn, o') :: news) := by
  refine ⟨hm, _, _, _, rfl, hd, hf, ?_, ?_, ?_, ?_⟩
  · have := PyProof.V.putD_length_le (.int r.i) (.bool true) D; omega
  · intro z
    rw [take_succ_get hr, List.map_append, List.mem_append]
    by_cases e : z = r.i
    · subst e
      rw [PyProof.V.lookup_putD_same]
      simp
    · rw [PyProof.V.lookup_putD_other e, hz z]
      simp [e]
  · intro r' hr'
    rw [take_succ_get hr] at hr'
    rcases List.mem_append.mp hr' with h | h
    · exact hok r' h
    · rw [List.mem_singleton.mp h]; exact h1
  · rw [take_succ_get hr, List.map_append, List.nodup_append]
    refine ⟨hnd, by simp, fun a ha b hb e => ?_⟩
    simp only [List.map_cons, List.map_nil, List.mem_singleton] at hb
    subst hb; subst e; exact h2 ha
theorem cf_spec {fx fdx cl' : Addr} {h1 h2 h3 h4 h5 h6 : Int} {k1 k2 k3 k4 k5 k6 t1 t2 t3 t4 t6 : Tok} {kind : Str} {prec hei wid n : Int} {n1 n2 : Nat} {comps : Array Value} {rows : List Row4} {news : List (Addr × Obj)}
    (B : Below A₀ base outer h₀) (F : Fr h₀ L s.heap m) (X : (Kc w.params).In h₀) (T : Top p loose mean mg mb h₀) (hk : cs.kind = .function)
    (N : News h₀ L s.heap news) (hlen : kind.length ≤ 1000) (hx : (fx, instObj 156 fdx) ∈ news) (hdx : (fdx, dictOf (frameEs h1 h2 h3 h4 h5 h6 k1 k2 k3 k4 k5 k6 t1 t2 t3 t4 t6 kind prec hei wid n cl') n1) ∈ news) (hcl : (cl', listOf comps n2) ∈ news) (hsz : comps.size ≤ 1000)
    (hcs : All2 (CompIn news) comps.toList rows)
    (hdp : dp + 6 < recursionLimit) (hun : un + 80 < cLine)
    (ok : LetBy kind prec hei wid rows → ∀ h' tk', Fr h₀ L h' m → News h₀ L h' news → Q .none { s with heap := h', toks := tk' })
    (bad : ¬ LetBy kind prec hei wid rows → ∀ e t vs g₂ h' tk', Fr h₀ L g₂ m → g₂.UpToSlots h' → RaisedK base (envX cn cs L a ccd cl :: outer) e (.ref 51) t vs news h' → E (.ref e) { s with heap := h', toks := tk' }) :
    wpAny (model prog w) (ktrTop dp un gd cn cs L a ccd cl outer) (call (.ref 188) [.ref fx]) Q E s := by
  have hfill : (fun (_ : OpenLaw) (_ : Params → Frag) => True) PySem.Challenge.rw_nz0245_01 Kc := by k_fill; trivial
  clear hfill
  have hsl : comps.size = rows.length := by rw [← Array.length_toList]; exact forall2_len hcs
  refine wpAny_call ?_
  k_dflt cell_enter
  k_steps
  · rename_i l1 lo hs' fs' hi' fi' h' F' N'
    rename_i d' _ _
    refine loopL (KnownInv prog w d' news rows) rfl (News.isList N' (.tail _ hcl)) ?_ F' N' ⟨rfl, _, _, _, rfl, hi', fi', Nat.le_refl _, ?_, ?_, ?_⟩ ?_ ?_
    · exact (N' _ (.tail _ hcl)).2.1
    · intro z; simp [PySem.Spec.lookup]
    · intro r hr; simp at hr
    · simp
    · rintro i v m₁ news₁ own I oI h tk hv ⟨hm, o, kvs, D, rfl, hd, hf, hD, hz, hok, hnd⟩ hoff hown hI F1 N1
      obtain ⟨r, hr, x, dx, e1, e2, e3, e4, e5, e6, e7, e8, e9, e10, e11, e12, e13, rfl, hcx, hcd⟩ := forall2_get hcs (i := i) (a := v) (by simpa using hv)
      obtain ⟨led, hled, hl1, hl2, hl3⟩ : ∃ led : List (Addr × Obj), (∀ p ∈ led, p ∈ own ++ news) ∧ (∀ p ∈ own, p ∈ led) ∧ (∀ p ∈ news, p ∈ led) ∧ (∀ p ∈ led, p.1 ≠ d') := by
        refine ⟨own ++ news, fun _ h => h, fun _ h => List.mem_append_left _ h, fun _ h => List.mem_append_right _ h, fun p hp => ?_⟩
        rcases List.mem_append.mp hp with hp | hp
        · rcases hown p hp with e | e
          · rw [e]; exact (hoff _ (.head _)).symm
          · rw [e]; exact Nat.ne_of_lt (l1 _ hcl)
        · exact Nat.ne_of_lt (l1 p hp)
      have N2 := news_sub (news := (d', o) :: led) N1 (fun p hp => by
        rcases List.mem_cons.mp hp with rfl | hp
        · exact List.mem_append_right _ (.head _)
        · rcases List.mem_append.mp (hled p hp) with h | h
          · exact List.mem_append_left _ h
          · exact List.mem_append_right _ (.tail _ h))
      have hcx' := hl2 _ hcx
      have hcd' := hl2 _ hcd
      have hil : i < comps.size := (Array.getElem?_eq_some_iff.mp hv).1
      have hDl : D.length ≤ 1000 := by omega
      clear N1
      k_steps
      · exact bad (not_let_dup hr ((hz r.i).mp (by assumption))) _ _ _ _ _ _ (by assumption) (by assumption) (raisedK_sub (by assumption) fun p hp => .tail _ (hl2 p hp))
      · refine TEnd.intro (all := _ :: led) (by assumption) (by assumption) (fun p hp => ?_) ?_ (known_step hr (by exact hm) (by assumption) (by assumption) hD hz hok hnd (by assumption) (fun e => ?_))
        · rcases List.mem_append.mp hp with h | h
          · exact .tail _ (hl1 p h)
          · rcases List.mem_cons.mp h with rfl | h
            · exact .head _
            · exact .tail _ (hl2 p h)
        · intro q hq
          rcases List.mem_cons.mp hq with rfl | hq
          · exact hoff (d', o) (.head _)
          · exact hoff q (.tail _ hq)
        · have := (hz r.i).mpr e
          simp_all
      · exact bad (not_let_bad hr (by assumption)) _ _ _ _ _ _ (by assumption) (by assumption) (raisedK_sub (by assumption) fun p hp => .tail _ (hl2 p hp))
    · rintro m₁ news₁ h tk ⟨hm, o, kvs, D, rfl, hd, hf, hD, hz, hok, hnd⟩ F1 N1
      k_steps
      have eT : rows.take comps.size = rows := by rw [hsl, List.take_length]
      rw [eT] at hok hnd
      exact ok ⟨⟨_, by assumption, by assumption, mem_of_any (by assumption)⟩, by omega, by omega, by omega, hok, hnd⟩ _ _ (by k_asm) (news_sub (by k_asm) fun p hp => .tail _ hp)
  all_goals first
    | exact bad (fun hl => by obtain ⟨_, b2, b3, b4, _⟩ := hl; omega) _ _ _ _ _ _ (by assumption) (by assumption) (by assumption)
    | exact bad (not_let_prec (by assumption) (by assumption) (by first | assumption | (simp_all; done))) _ _ _ _ _ _ (by assumption) (by assumption) (by assumption)
    | exact bad (fun ⟨⟨r, b1, b2, _⟩, _⟩ => absurd b2 ((by assumption : ∀ r ∈ kRows, kind ≠ r.name) r b1)) _ _ _ _ _ _ (by assumption) (by assumption) (by assumption)
end
end
section
open PySem PySem.Calls PySem.W PyProof.Rows
/-- h' upon the addresses of h₀ -/
def cutTo (h₀ h' : Heap) : Heap := ⟨(Array.range h₀.objs.size).map fun b => if (h₀.get? b).isSome then h'.objs.getD b { cls := .none, data := .freed } else { cls := .none, data := .freed }, h'.life⟩
theorem cutTo_size (h₀ h' : Heap) : (cutTo h₀ h').objs.size = h₀.objs.size := by simp [cutTo]
theorem cutTo_get {h₀ h' : Heap} {b : Addr} : (cutTo h₀ h').get? b = if (h₀.get? b).isSome then h'.get? b else none := by
  by_cases hb : b < h₀.objs.size
  · have e : (cutTo h₀ h').objs[b]? = some (if (h₀.get? b).isSome then h'.objs.getD b { cls := .none, data := .freed } else { cls := .none, data := .freed }) := by
      simp [cutTo, hb]
    unfold Heap.get?
    rw [e]
    by_cases hs : (h₀.get? b).isSome = true
    · have hs' := hs
      unfold Heap.get? at hs'
      rw [if_pos hs, if_pos hs']
      unfold Array.getD
      by_cases h2 : b < h'.objs.size
      · simp [h2]
      · simp [h2]
    · have hs' := hs
      unfold Heap.get? at hs'
      rw [if_neg hs, if_neg hs']
  · have e : h₀.get? b = none := Heap.get?_none_of_le (Nat.le_of_not_lt hb)
    rw [e]
    exact Heap.get?_none_of_le (by rw [cutTo_size]; exact Nat.le_of_not_lt hb)
section
variable {A₀ : Around} {base h₀ h h' : Heap} {outer : List Env} {L : Addr} {m : Str → Option Value} {news : List (Addr × Obj)} {K : Frag} {p : Program} {loose : List Str} {mean : ExcName → Option Value} {mg mb : Str → Option Value}
/-- behind a caught exception: the frame below lies over what the old base has become -/
theorem rebase (B : Below A₀ base outer h₀) (F : Fr h₀ L h m) (N : News h₀ L h news) (Xb : K.In base) (Tb : Top p loose mean mg mb base) (st : base.StaysIn h') (up : h.UpToSlots h') (hn : ∀ q ∈ news, h'.get? q.1 = some q.2) :
    Below A₀ base outer (cutTo h₀ h') ∧ Fr (cutTo h₀ h') L h' m ∧ News (cutTo h₀ h') L h' news ∧ K.In (cutTo h₀ h') ∧ Top p loose mean mg mb (cutTo h₀ h') ∧ h₀.UpToSlots (cutTo h₀ h') := by
  have up₀ : h₀.UpToSlots (cutTo h₀ h') := fun b o e hf => by
    obtain ⟨sl, e'⟩ := up b o (F.keep b o e) hf
    exact ⟨sl, by rw [cutTo_get, e]; exact e'⟩
  have st₀ : base.StaysIn (cutTo h₀ h') := fun b o e => by
    rw [cutTo_get, B.stays b o e]
    exact st b o e
  refine ⟨⟨B.stack, st₀, B.frames.of_keeps fun b o e hf => ?_⟩, ⟨up.ns F.ns, fun b o e => ?_, by rw [cutTo_size]; exact F.above⟩, fun q hq => ⟨hn q hq, (N q hq).2.1, ?_⟩, Xb.keeps st₀, Tb.keeps st₀, up₀⟩
  · obtain ⟨sl, e'⟩ := up₀ b o e hf
    exact ⟨_, e', rfl⟩
  · rw [cutTo_get] at e
    split at e
    · exact e
    · cases e
  · rw [cutTo_get, (N q hq).2.2]; rfl
end
section
variable {prog : Program} {w : World} {A A₀ : Around} {E : Value → Shared → Prop} {s : Shared} {K : Frag} {L : Addr} {h₀ base : Heap} {m mg mb : Str → Option Value} {news : List (Addr × Obj)} {p : Program} {loose : List Str} {mean : ExcName → Option Value}
/-- a def entered: what comes back is said by the caller -/
theorem call_raw {env : Env} {outer : List Env} {R : Result → Shared → Prop} {name qual : Str} {params : Arguments} {body : List Stmt} {scope : Scope} {dV kV doc pm cdv ct oc : Value} {an od : Option Addr} {osl : Array (Option Value)} {f : Addr} {args : Args} {binds : List (Str × Value)}
    (B : Below A₀ base outer h₀) (F : Fr h₀ L s.heap m) (X₀ : K.In h₀) (N : News h₀ L s.heap news) (T : Top p loose mean mg mb h₀) (hA : A.frames = some (env :: outer)) (hf : env.frame = some L) (hke : env.scope.kind = .function)
    (ho : K.lookup f = some ⟨oc, od, .func (fnOf name qual params body scope dV kV doc pm an cdv ct), osl⟩) (hcd : codeIn K cdv qual = true) (hroom : A.depth < recursionLimit)
    (hbind : BindsTo s (fnOf name qual params body scope dV kV doc pm an cdv ct) args binds) (hloc : ∀ y ∈ binds, scope.names.lookup y.1 = some .local)
    (h : ∀ g L' h₁, Fr h₀ L g m → Fr g L' h₁ (fun y => binds.reverse.lookup y) → News g L' h₁ news → Below A base (env :: outer) g → K.In g → Top p loose mean mg mb g → (∀ b o, s.heap.get? b = some o → (∃ q ∈ news, q.1 = b) ∨ g.get? b = some o) →
      wpAny (model prog w) (A.deeper (envOf qual scope L' f cdv)) (execs body (envOf qual scope L' f cdv))
        (fun fl s' => R (.ok (.ret (match fl with | .ret v => v | _ => .none))) s')
        (fun e s' => wpAny (model prog w) (A.deeper (envOf qual scope L' f cdv)) (leaving (envOf qual scope L' f cdv) e) (fun _ s'' => R (.error e) s'') (fun e' s'' => R (.error e') s'') s')
        { s with heap := h₁, toks := s.toks + binds.length })
    (hcell : ∀ x ∈ scope.names, x.2 ≠ .cell) (hco : scope.isCoroutine = false := by rfl) (hgen : scope.isGenerator = false := by rfl) (hk : scope.kind = .function := by rfl) :
    codeAny (model prog w) A (.call (.ref f) args) R s := by
  obtain ⟨FG, BG, st, lv⟩ := groundX (R := R) B F N hA hf hke
  have X := X₀.keeps F.keep
  refine codeAny_call_def (fd := fnOf name qual params body scope dV kV doc pm an cdv ct) (body := body) (binds := binds) hroom (X _ _ ho) rfl (T.nolimit.keeps F.keep) (codeRec_of X hcd) rfl hbind hcell hloc (fun h₁ hns hk₁ => ?_) hco hgen hk
  exact h _ s.heap.objs.size h₁ FG ⟨hns, fun b o e => hk₁ b o (of_hideAll _ e), Nat.le_of_eq (hideAll_size _ _)⟩
    (fun p hp => ⟨hk₁ _ _ (N p hp).1, Nat.ne_of_lt (Heap.lt_size (N p hp).1), hideAll_none _ (List.mem_map_of_mem hp)⟩) BG (X₀.keeps st) (T.keeps st) fun b o e => by
      by_cases hm : b ∈ news.map (·.1)
      · obtain ⟨q, hq, e'⟩ := List.mem_map.mp hm
        exact .inl ⟨q, hq, e'⟩
      · exact .inr (hideAll_get _ e hm)
/-- back from a def that raised nothing -/
theorem back_from {g h : Heap} {L' : Addr} {m' : Str → Option Value} {news' : List (Addr × Obj)} (FG : Fr h₀ L g m) (F' : Fr g L' h m') (N' : News g L' h news') : Fr h₀ L h m ∧ News h₀ L h news' := by
  obtain ⟨oL, es, ep, hL, r⟩ := FG.ns
  refine ⟨⟨⟨oL, es, ep, F'.keep L oL hL, r⟩, fun b o e => F'.keep b o (FG.keep b o e), FG.above⟩, fun q hq => ⟨(N' q hq).1, fun e => ?_, ?_⟩⟩
  · have := (N' q hq).2.2
    rw [e, hL] at this; cases this
  · cases z : h₀.get? q.1 with
    | none => rfl
    | some o => have := (N' q hq).2.2; rw [FG.keep _ _ z] at this; cases this
end
section
variable {prog : Program} {w : World} {A₀ : Around} {E : Value → Shared → Prop} {s' : Shared} {base g : Heap} {outer : List Env} {L a e t : Addr} {m : Str → Option Value} {name : Str} {scope : Scope} {cd : Value}
  {vs : List Value} {b₀ : Stmt} {suite : List Stmt} {pos np : Pos} {rest : List ExceptHandler} {Q : Flow → Shared → Prop} {news : List (Addr × Obj)} {K : Frag} {x : Str}
  {p : Program} {loose : List Str} {mean : ExcName → Option Value} {mg mb : Str → Option Value}
variable {nm q : Str} {N : Addr} {bs bm : List Value} {hdct : Bool} {sn : List Str} {sub : List Value} {ab : Bool} {col : Option Bool} {dd : Option Addr} {k0 k1 k2 k3 k5 : Option Value} {newId : String}
theorem fe_catch (B : Below A₀ base outer g) (F : Fr base L s'.heap m) (R : RaisedK base (envOf name scope L a cd :: outer) e (.ref 51) t vs news s'.heap)
    (X : K.In base) (T : TopRead p loose mg mb base) (ex : nsIn K mainGlobals x = some (some (.ref 51))) (hl : K.lookup 51 = some (excClassObj nm q 51 N bs bm hdct sn sub ab col dd k0 k1 k2 k3 k5 newId)) (hbase : bm.contains (.type "BaseException") = true)
    (k : ∀ h', base.StaysIn h' → s'.heap.UpToSlots h' → (∀ q ∈ news, h'.get? q.1 = some q.2) →
      wpAny (model prog w) ((A₀.deeper (envOf name scope L a cd)).mark (some (.ref e))) (execs (b₀ :: suite) (envOf name scope L a cd)) Q E { s' with heap := h' })
    (hk : scope.kind = .function := by rfl) (hx : (envOf name scope L a cd).kindOf x = some .globalImplicit := by rfl) (hd : (x == ("__debug__" : Str)) = false := by decide)
    (hE : PassesOwnAt (model prog w) ((A₀.deeper (envOf name scope L a cd)).mark (some (.ref e))) (A₀.deeper (envOf name scope L a cd)) (envOf name scope L a cd) E := by passes_own) :
    wpAny (model prog w) (A₀.deeper (envOf name scope L a cd)) (noteFrame (.ref e) (envOf name scope L a cd))
      (fun _ s₂ => wpAny (model prog w) (A₀.deeper (envOf name scope L a cd)) (setFlight (.ref e) none) (fun _ s₃ =>
        wpAny (model prog w) (A₀.deeper (envOf name scope L a cd)) (handleBy (.ref e) (envOf name scope L a cd) (.ExceptHandler (some (.Name x np)) none (b₀ :: suite) pos :: rest)) Q E s₃) E s₂) E s' := by
  obtain ⟨⟨H, hB, hl', hfl, hnew⟩, htup⟩ := R
  refine wpAny_looks_onW (Around.frames_deeper B.stack) rfl hfl fun h₄ hheld₄ hsm₄ => ?_
  refine wpAny_landsW hheld₄ fun h₅ hheld hsm₅' => ?_
  have hsm₅ := hsm₄.trans hsm₅'
  have hheld' := flyingW_base hB hheld
  have F₅ := F.of_stays hheld'.1 hsm₅
  obtain ⟨ob, hob, hobc⟩ := hheld'.there
  refine wpAny_handleBy_cons (codeAny_handlers_test (name_K F₅ X T ex ?_ hk hx hd)) (by intro q; cases q)
  have hC := hheld'.1 _ _ (X _ _ hl)
  refine wpAny_excMatches_sub_self hC hob hobc hbase (codeAny_handlers_suite ?_)
  refine lands_againW hheld fun h₆ hfl₆ hsm₆ => ?_
  exact wpAny_passesOwnAt hE (k h₆ (flyingW_base hB hfl₆).1 (hsm₅.trans hsm₆) fun q hq => hfl₆.1 _ _ (hl' q hq).1)
end
end
section
open PySem PySem.Calls PySem.W PyProof.Rows
/-- f called upon args ends where P holds, and raises FrameError where it does not; it changes nothing of the ledger -/
def CallC (prog : Program) (w : World) (p : Program) (loose : List Str) (mean : ExcName → Option Value) (mg mb : Str → Option Value) (f : Addr) (news : List (Addr × Obj)) (P : Prop) : Prop :=
  ∀ (dp un : Nat) (gd : Option (List Code)) (cn : Str) (cs : Scope) (a : Addr) (ccd : Value) (cl : List (Str × Addr)) (outer : List Env) (A₀ : Around) (base h₀ : Heap) (L : Addr) (m : Str → Option Value) (s : Shared) (Q E : Value → Shared → Prop),
    Below A₀ base outer h₀ → Fr h₀ L s.heap m → (Kc w.params).In h₀ → Top p loose mean mg mb h₀ → cs.kind = .function → News h₀ L s.heap news → dp + 10 < recursionLimit → un + 120 < cLine →
    (P → ∀ v h' tk', Fr h₀ L h' m → News h₀ L h' news → Q v { s with heap := h', toks := tk' }) →
    (¬ P → ∀ e t vs g₂ h' tk', Fr h₀ L g₂ m → g₂.UpToSlots h' → RaisedK base (envX cn cs L a ccd cl :: outer) e (.ref 51) t vs news h' → E (.ref e) { s with heap := h', toks := tk' }) →
    wpAny (model prog w) (ktrTop dp un gd cn cs L a ccd cl outer) (call (.ref f) []) Q E s
theorem base_fr {base g g₂ h' : Heap} {L L' e t : Addr} {m m' : Str → Option Value} {h₀ : Heap} {A : Around} {outer l : List Env} {cls : Value} {vs : List Value} {news : List (Addr × Obj)} (B' : Below A base outer g) (FG : Fr h₀ L g m) (hbs : base.objs.size ≤ L) (F2 : Fr g L' g₂ m') (U2 : g₂.UpToSlots h') (R2 : RaisedK base l e cls t vs news h') : Fr base L' h' m' := by
  refine ⟨U2.ns F2.ns, ?_, Nat.le_trans hbs (Nat.le_of_lt (Nat.lt_of_lt_of_le FG.ns.lt F2.above))⟩
  obtain ⟨⟨H, hB, hl', hfl, hnew⟩, htup⟩ := R2
  exact (flyingW_base hB hfl).1
section
variable {prog : Program} {w : World} {p : Program} {loose : List Str} {mean : ExcName → Option Value} {mg mb : Str → Option Value}
    {dp un : Nat} {gd : Option (List Code)} {cn : Str} {cs : Scope} {a : Addr} {ccd : Value} {cl : List (Str × Addr)} {outer : List Env} {A₀ : Around} {base h₀ : Heap} {L : Addr} {m : Str → Option Value} {s : Shared} {Q E : Value → Shared → Prop}
local macro_rules | `(tactic| walk_at "call ref") => `(tactic| (k_here; k_dflt (refine' (by assumption : CallC _ _ _ _ _ _ _ _ _ _) _ _ _ _ _ _ _ _ _ _ _ _ _ _ _ _ _ ?k1 ?k2 ?k3 ?k4 ?k5 ?k6 ?k12 ?k13 ?_ ?_; (case k1 => k_asm); (case k2 => k_asm); (case k3 => k_asm); (case k4 => k_asm); (case k5 => first | exact rfl | assumption); (case k6 => k_asm); (case k12 => ktr_room); (case k13 => ktr_units)); intro hP' v' h' tk' F' N'; (try dsimp only); (try k_fold)))

local macro_rules | `(tactic| walk_at "callWith ref") => `(tactic| (k_here; k_dflt (refine callWith_F0 (FnAt.of (by k_asm) (by assumption)) ?_)))
theorem refused_spec {fo : Addr} {fd : FuncData} {P : Prop} {news : List (Addr × Obj)}
    (B : Below A₀ base outer h₀) (F : Fr h₀ L s.heap m) (X : (Kc w.params).In h₀) (T : Top p loose mean mg mb h₀) (Xb : (Kc w.params).In base) (Tb : Top p loose mean mg mb base) (hbs : base.objs.size ≤ L) (hk : cs.kind = .function)
    (N : News h₀ L s.heap news) (hfo : (fo, ({ cls := .type "function", data := .func fd } : Obj)) ∈ news) (hC : CallC prog w p loose mean mg mb fo news P)
    (hdp : dp + 14 < recursionLimit) (hun : un + 160 < cLine)
    (ret : ∀ b h₀' h' tk', (b = true ↔ ¬ P) → Below A₀ base outer h₀' → (Kc w.params).In h₀' → Top p loose mean mg mb h₀' → Fr h₀' L h' m → News h₀' L h' news → h₀.UpToSlots h₀' → Q (.bool b) { s with heap := h', toks := tk' }) :
    wpAny (model prog w) (ktrTop dp un gd cn cs L a ccd cl outer) (call (.ref 259) [.ref fo]) Q E s := by
  have hfill : (fun (_ : OpenLaw) (_ : Params → Frag) => True) PySem.Challenge.rw_nz0245_01 Kc := by k_fill; trivial
  clear hfill
  refine wpAny_call ?_
  k_dflt (refine' call_raw ?k1 ?k2 ?k3 ?k4 ?k5 ?kA ?kF ?kK ?k6 ?k7 ?k8 ?k9 ?kB ?_ ?c5 ?c2 ?c3 ?c4; (case kA => exact rfl); (case kF => exact rfl); (case kK => assumption); (case k1 => k_asm); (case k2 => k_asm); (case k3 => k_asm); (case k4 => k_asm); (case k5 => k_asm); (case k6 => k_is); (case k7 => k_is); (case k8 => ktr_room); (case k9 => exact BindsTo.of_eq rfl); (case c5 => decide); (case kB => exact locs rfl); (case c2 => exact rfl); (case c3 => exact rfl); (case c4 => exact rfl))
  intro g L' h₁ FG F' N' B' X' T' hg
  refine wpAny_execs_cons (wpAny_Try_except ?_)
  (try k_fold)
  k_steps
  · show Q (.bool false) _
    obtain ⟨F3, N3⟩ := back_from FG (by assumption : Fr g L' _ _) (by assumption)
    exact ret false h₀ _ _ (by have : P := by assumption
                               simp [this]) B X T F3 N3 (Heap.UpToSlots.refl h₀)
  · rename_i hP e t vs g₂ h' tk' F2 U2 R2
    refine fe_catch B' (base_fr B' FG hbs F2 U2 R2) R2 Xb (topRead_of Tb) (by k_dflt k_is) (by k_dflt k_is) (by decide) (fun h6 st6 up6 hn6 => ?_)
    k_steps
    show Q (.bool true) _
    have up : s.heap.UpToSlots h6 := fun b o eo hf => by
      rcases hg b o eo with ⟨q, hq, rfl⟩ | eg
      · have e1 := (N q hq).1
        rw [eo] at e1
        exact ⟨o.slots, by rw [hn6 q hq, ← e1]⟩
      · obtain ⟨sl, e2⟩ := U2 b o (F2.keep b o eg) hf
        obtain ⟨sl', e3⟩ := up6 b _ e2 hf
        exact ⟨sl', e3⟩
    obtain ⟨B3, F3, N3, X3, T3, up3⟩ := rebase B F N Xb Tb st6 up hn6
    exact ret true _ _ _ (by simp [hP]) B3 X3 T3 F3 N3 up3
end
end
section
open PySem PySem.Calls PySem.W PyProof.Rows
theorem allLt_ne {d : Addr} {l : List (Addr × Obj)} (h : AllLt d l) : ∀ p ∈ l, p.1 ≠ d := by
  induction l with
  | nil => intro p hp; exact absurd hp (List.not_mem_nil)
  | cons q r ih =>
    intro p hp
    rcases List.mem_cons.mp hp with rfl | hp
    · exact Nat.ne_of_lt h.1
    · exact ih h.2 p hp
theorem gnNe_ne {d : Addr} {l : List (Addr × Obj)} (h : GnNe d l) : ∀ p ∈ l, p.1 ≠ d := by
  induction l with
  | nil => intro p hp; exact absurd hp (List.not_mem_nil)
  | cons q r ih =>
    intro p hp
    rcases List.mem_cons.mp hp with rfl | hp
    · exact h.1
    · exact ih h.2 p hp
def TabRow (news : List (Addr × Obj)) (v : Value) (k : KRow) : Prop :=
  ∃ x px t1 t2 vs n1 n2, v = .ref x ∧ (x, listOf #[.str k.name t1, .int k.code t2, .ref px] n1) ∈ news ∧ (px, listOf (List.toArray vs) n2) ∈ news ∧ IntsAre vs k.ps
section
variable {prog : Program} {w : World} {p : Program} {loose : List Str} {mean : ExcName → Option Value} {mg mb : Str → Option Value}
    {dp un : Nat} {gd : Option (List Code)} {cn : Str} {cs : Scope} {a : Addr} {ccd : Value} {cl : List (Str × Addr)} {outer : List Env} {A₀ : Around} {base h₀ : Heap} {L : Addr} {m : Str → Option Value} {s : Shared} {Q E : Value → Shared → Prop}
theorem tab_spec {news : List (Addr × Obj)}
    (B : Below A₀ base outer h₀) (F : Fr h₀ L s.heap m) (X : (Kc w.params).In h₀) (T : Top p loose mean mg mb h₀) (hk : cs.kind = .function)
    (N : News h₀ L s.heap news)
    (hdp : dp + 2 < recursionLimit) (hun : un + 24 < cLine)
    (ret : ∀ tb vs n led h' tk', Fr h₀ L h' m → News h₀ L h' ((tb, listOf vs n) :: (led ++ news)) → All2 (TabRow led) vs.toList kRows → (∀ q ∈ (tb, listOf vs n) :: led, ∀ p ∈ news, p.1 ≠ q.1) → Q (.ref tb) { s with heap := h', toks := tk' }) :
    wpAny (model prog w) (ktrTop dp un gd cn cs L a ccd cl outer) (call (.ref 223) []) Q E s := by
  have hfill : (fun (_ : OpenLaw) (_ : Params → Frag) => True) PySem.Challenge.rw_nz0245_01 Kc := by k_fill; trivial
  clear hfill
  refine wpAny_call ?_
  k_dflt cell_enter
  k_steps
  have go : ∀ {d : Addr} {r : Prop}, AllLt d news ∧ r → True := fun _ => trivial
  refine ret _ _ _ [_, _, _, _, _, _, _, _, _] _ _ (by k_asm) (by k_asm) ?_ ?_
  · repeat' (first | exact .nil | (refine All2.cons ⟨_, _, _, _, _, _, _, rfl, by k_mem, by k_mem, ?_⟩ ?_))
    all_goals first | assumption | (repeat' (first | exact .nil | refine IntsAre.cons _ _ ?_))
  · intro q hq p hp
    simp only [List.mem_cons, List.not_mem_nil, or_false] at hq
    rcases hq with rfl | rfl | rfl | rfl | rfl | rfl | rfl | rfl | rfl | rfl
    all_goals (dsimp only; first | exact Nat.ne_of_lt ((by with_reducible assumption : ∀ p ∈ news, p.1 < _) p hp) | exact allLt_ne (by with_reducible assumption) p hp | exact gnNe_ne (by with_reducible assumption) p hp | exact allLt_ne (And.right (by with_reducible assumption)) p hp | exact gnNe_ne (And.right (by with_reducible assumption)) p hp | exact allLt_ne (And.right (And.right (by with_reducible assumption))) p hp | exact gnNe_ne (And.right (And.right (by with_reducible assumption))) p hp | exact allLt_ne (And.right (And.right (And.right (by with_reducible assumption)))) p hp | exact gnNe_ne (And.right (And.right (And.right (by with_reducible assumption)))) p hp | exact allLt_ne (And.right (And.right (And.right (And.right (by with_reducible assumption))))) p hp | exact gnNe_ne (And.right (And.right (And.right (And.right (by with_reducible assumption))))) p hp | exact allLt_ne (And.right (And.right (And.right (And.right (And.right (by with_reducible assumption)))))) p hp | exact gnNe_ne (And.right (And.right (And.right (And.right (And.right (by with_reducible assumption)))))) p hp | exact allLt_ne (And.right (And.right (And.right (And.right (And.right (And.right (by with_reducible assumption))))))) p hp | exact gnNe_ne (And.right (And.right (And.right (And.right (And.right (And.right (by with_reducible assumption))))))) p hp | exact allLt_ne (And.right (And.right (And.right (And.right (And.right (And.right (And.right (by with_reducible assumption)))))))) p hp | exact gnNe_ne (And.right (And.right (And.right (And.right (And.right (And.right (And.right (by with_reducible assumption)))))))) p hp | exact allLt_ne (And.right (And.right (And.right (And.right (And.right (And.right (And.right (And.right (by with_reducible assumption))))))))) p hp | exact gnNe_ne (And.right (And.right (And.right (And.right (And.right (And.right (And.right (And.right (by with_reducible assumption))))))))) p hp | exact allLt_ne (And.right (And.right (And.right (And.right (And.right (And.right (And.right (And.right (And.right (by with_reducible assumption)))))))))) p hp | exact gnNe_ne (And.right (And.right (And.right (And.right (And.right (And.right (And.right (And.right (And.right (by with_reducible assumption)))))))))) p hp | exact allLt_ne (And.right (And.right (And.right (And.right (And.right (And.right (And.right (And.right (And.right (And.right (by with_reducible assumption))))))))))) p hp | exact gnNe_ne (And.right (And.right (And.right (And.right (And.right (And.right (And.right (And.right (And.right (And.right (by with_reducible assumption))))))))))) p hp)
end
end
section
open PySem PySem.Calls PySem.W PyProof.Rows
/-- a text that every rule takes -/
abbrev KOk (k : Str) : Prop := k.length ≤ 1000 ∧ PyData.strOk k = true
theorem Pick.app {p : Addr × Obj} : ∀ (l : List (Addr × Obj)) {r r' : List (Addr × Obj)}, Pick p r r' → Pick p (l ++ r) (l ++ r')
  | [], _, _, h => h
  | _ :: l, _, _, h => .tail (Pick.app l h)
theorem ints_get {vs : List Value} {ns : List Int} (h : IntsAre vs ns) : ∀ {i : Nat} {v : Value}, vs[i]? = some v → ∃ x t, v = .int x t ∧ x ∈ ns := by
  induction h with
  | nil => intro i v e; simp at e
  | cons x t _ ih =>
    intro i v e
    cases i with
    | zero => simp at e; exact ⟨_, _, e.symm, .head _⟩
    | succ i => obtain ⟨x, t, h1, h2⟩ := ih (i := i) (by simpa using e); exact ⟨x, t, h1, .tail _ h2⟩
section
variable {prog : Program} {w : World} {p : Program} {loose : List Str} {mean : ExcName → Option Value} {mg mb : Str → Option Value}
    {dp un : Nat} {gd : Option (List Code)} {cn : Str} {cs : Scope} {a : Addr} {ccd : Value} {cl : List (Str × Addr)} {outer : List Env} {A₀ : Around} {base h₀ : Heap} {L : Addr} {m : Str → Option Value} {s : Shared} {Q E : Value → Shared → Prop}
/-- one of a list of ints -/
theorem one_ints {so th : Addr} {o : Obj} {vs : List Value} {ns : List Int} {n : Nat} {news rest : List (Addr × Obj)}
    (B : Below A₀ base outer h₀) (F : Fr h₀ L s.heap m) (X : (Kc w.params).In h₀) (T : Top p loose mean mg mb h₀) (hk : cs.kind = .function)
    (N : News h₀ L s.heap news) (hp : Pick (so, o) news rest) (ho : SrcObj o) (hth : (th, listOf vs.toArray n) ∈ rest) (hi : IntsAre vs ns) (hn1 : 1 ≤ ns.length) (hn2 : ns.length ≤ 1000)
    (hne : ∀ p ∈ rest, p.1 ≠ so)
    (hdp : dp + 3 < recursionLimit) (hun : un + 32 < cLine)
    (ret : ∀ x t o' h' tk', Fr h₀ L h' m → News h₀ L h' ((so, o') :: rest) → SrcObj o' → x ∈ ns → Q (.int x t) { s with heap := h', toks := tk' }) :
    wpAny (model prog w) (ktrTop dp un gd cn cs L a ccd cl outer) (call (.ref 216) [.ref so, .ref th]) Q E s := by
  have hl := hi.length
  refine one_spec B F X T hk N hp ho hth (by simp; omega) (by simp; omega) hne hdp hun fun i v o' h' tk' F' N' ho' hv hi' => ?_
  obtain ⟨x, t, rfl, hx⟩ := ints_get hi (i := i) (by simpa using hv)
  exact ret x t o' h' tk' F' N' ho' hx
/-- one of a list of texts -/
theorem one_strs {so th : Addr} {o : Obj} {vs : List Value} {n : Nat} {news rest : List (Addr × Obj)}
    (B : Below A₀ base outer h₀) (F : Fr h₀ L s.heap m) (X : (Kc w.params).In h₀) (T : Top p loose mean mg mb h₀) (hk : cs.kind = .function)
    (N : News h₀ L s.heap news) (hp : Pick (so, o) news rest) (ho : SrcObj o) (hth : (th, listOf vs.toArray n) ∈ rest) (hi : ∀ v ∈ vs, ∃ x t, v = .str x t ∧ KOk x) (hn1 : 1 ≤ vs.length) (hn2 : vs.length ≤ 1000)
    (hne : ∀ p ∈ rest, p.1 ≠ so)
    (hdp : dp + 3 < recursionLimit) (hun : un + 32 < cLine)
    (ret : ∀ x t o' h' tk', Fr h₀ L h' m → News h₀ L h' ((so, o') :: rest) → SrcObj o' → KOk x → Q (.str x t) { s with heap := h', toks := tk' }) :
    wpAny (model prog w) (ktrTop dp un gd cn cs L a ccd cl outer) (call (.ref 216) [.ref so, .ref th]) Q E s := by
  refine one_spec B F X T hk N hp ho hth (by simp; omega) (by simp; omega) hne hdp hun fun i v o' h' tk' F' N' ho' hv hi' => ?_
  obtain ⟨x, t, rfl, hx⟩ := hi v (List.mem_of_getElem? (i := i) (by simpa using hv))
  exact ret x t o' h' tk' F' N' ho' hx
/-- one of the tables -/
theorem one_tab {so th : Addr} {o : Obj} {vs : Array Value} {n : Nat} {news rest led : List (Addr × Obj)}
    (B : Below A₀ base outer h₀) (F : Fr h₀ L s.heap m) (X : (Kc w.params).In h₀) (T : Top p loose mean mg mb h₀) (hk : cs.kind = .function)
    (N : News h₀ L s.heap news) (hp : Pick (so, o) news rest) (ho : SrcObj o) (hth : (th, listOf vs n) ∈ rest) (hi : All2 (TabRow led) vs.toList kRows)
    (hne : ∀ p ∈ rest, p.1 ≠ so)
    (hdp : dp + 3 < recursionLimit) (hun : un + 32 < cLine)
    (ret : ∀ r ∈ kRows, ∀ x px t1 t2 vs n1 n2 o' h' tk', (x, listOf #[.str r.name t1, .int r.code t2, .ref px] n1) ∈ led → (px, listOf (List.toArray vs) n2) ∈ led → IntsAre vs r.ps → Fr h₀ L h' m → News h₀ L h' ((so, o') :: rest) → SrcObj o' → Q (.ref x) { s with heap := h', toks := tk' }) :
    wpAny (model prog w) (ktrTop dp un gd cn cs L a ccd cl outer) (call (.ref 216) [.ref so, .ref th]) Q E s := by
  have hl : vs.size = 6 := by rw [← Array.length_toList, forall2_len hi]; rfl
  refine one_spec B F X T hk N hp ho hth (by omega) (by omega) hne hdp hun fun i v o' h' tk' F' N' ho' hv hi' => ?_
  obtain ⟨r, hr, x, px, t1, t2, vs, n1, n2, rfl, h1, h2, h3⟩ := forall2_get hi (i := i) (a := v) (by simpa using hv)
  exact ret r (List.mem_of_getElem? hr) x px t1 t2 vs n1 n2 o' h' tk' h1 h2 h3 F' N' ho'
theorem kRows_ps : ∀ r ∈ kRows, 1 ≤ r.ps.length ∧ r.ps.length ≤ 1000 := by decide +kernel
theorem kRows_nm : ∀ r ∈ kRows, KOk r.name := by decide +kernel
end
end
section
open PySem PySem.Calls PySem.W PyProof.Rows
section
variable {prog : Program} {w : World} {A : Around} {E : Value → Shared → Prop} {s : Shared} {env : Env} {h₀ : Heap} {x : Str} {body : List Stmt} {Q : Flow → Shared → Prop}
theorem size_of {n : Nat} : Builtin.Range.rangeSize 0 (n : Int) 1 = (n : Int) := by
  unfold Builtin.Range.rangeSize
  rw [if_pos (by decide)]
  split
  · rw [Int.ediv_one]; omega
  · omega
/-- a loop over range(n), by what holds of the frame's map and of the ledger between the turns -/
theorem loopR {r : Addr} {b₀ : Int} {t₀ u₀ v₀ : Tok} {n : Nat} {m₀ : Str → Option Value} {news : List (Addr × Obj)} (J : Nat → (Str → Option Value) → List (Addr × Obj) → Prop)
    (hh : A.handled = none) (hr : IsRange s.heap r 0 b₀ 1 t₀ u₀ v₀) (hb : b₀ = (n : Int)) (hn : n ≤ 1000000) (F : Fr h₀ env.locals s.heap m₀) (N : News h₀ env.locals s.heap news) (hj : J 0 m₀ news)
    (turn : ∀ (i : Nat) t m₁ news₁ I oI h tk, i < n → J i m₁ news₁ → (∀ q ∈ news₁, q.1 ≠ I) → Fr h₀ env.locals h (fun y => if y = x then some (.int (i : Int) t) else m₁ y) → News h₀ env.locals h ((I, oI) :: news₁) →
      wpAny (model prog w) A (execs body env) (TPost h₀ env.locals I [(I, oI)] (J (i + 1)) { s with heap := h, toks := tk } Q) E { s with heap := h, toks := tk })
    (done : ∀ m₁ news₁ h tk, J n m₁ news₁ → Fr h₀ env.locals h m₁ → News h₀ env.locals h news₁ → Q .next { s with heap := h, toks := tk }) :
    wpAny (model prog w) A (pyIter (.ref r)) (fun it s₂ => LoopAtV prog w A h₀ env x body Q E it s₂) E s := by
  subst hb
  refine wpAny_pyIter_range hr (small_one (by decide) (by decide) (by omega) (by omega)) ?_
  have W : Walks prog w A s.heap.objs.size [s.heap.objs.size] [s.heap.objs.size] n (fun i v => i < n ∧ ∃ t, v = .int ((0 : Int) + i * 1) t)
      (fun i h => IsRangeIter h s.heap.objs.size (0 + (i : Nat) * 1) ((n : Int) - (i : Nat)) 1) := (Walks.range hh _ 0 1 n).bound
  have hnew := next_is_new F
  refine ⟨_, _, _, n, _, _, m₀, news, J, rfl, W, ?_, ?_, ?_, (by show IsRangeIter _ _ _ _ _; rw [size_of]; simpa using Heap.get?_push_size _ rfl), F.push _, (fun p hp => ⟨Heap.get?_push_of_some _ (N p hp).1, (N p hp).2⟩), hj, ?_, ?_⟩
  · intro hm
    exact absurd F.ns.lt ((List.mem_singleton.mp hm) ▸ Nat.lt_irrefl _)
  · intro b hb
    rw [List.mem_singleton.mp hb]
    exact hnew
  · intro p hp hI
    exact absurd (Heap.lt_size (N p hp).1) ((List.mem_singleton.mp hI) ▸ Nat.lt_irrefl _)
  · rintro i v m₁ news₁ s₁ own ⟨hh', tk', rfl⟩ hin ⟨_, t, rfl⟩ hJ hoff hown hget hall hst F₁ N₁
    obtain ⟨oI, hoI⟩ : ∃ oI, hh'.get? s.heap.objs.size = some oI := ⟨_, hst⟩
    have hI := hall _ (List.mem_singleton.mpr rfl) hnew _ hoI
    have off : ∀ q ∈ news₁, q.1 ≠ s.heap.objs.size := fun q hq e => hoff q hq (List.mem_singleton.mpr e)
    have e1 : (0 : Int) + (i : Int) * 1 = (i : Int) := by rw [Int.mul_one, Int.zero_add]
    rw [e1] at F₁
    have own1 : ∀ p ∈ own, p = (s.heap.objs.size, oI) := fun p hp => by
      have h1 : p.1 = s.heap.objs.size := List.mem_singleton.mp (hown p hp)
      have h2 := hget p hp
      rw [h1] at h2
      exact Prod.ext h1 (Option.some.inj (h2.symm.trans hoI))
    refine wpAny_mono (turn i t m₁ news₁ s.heap.objs.size oI hh' tk' hin hJ off F₁ (fun p hp => by
      rcases List.mem_cons.mp hp with rfl | hp
      · exact N₁ _ (List.mem_append_left _ hI)
      · exact N₁ _ (List.mem_append_right _ hp))) (fun f s₂ p => ?_) fun _ _ e => e
    have fin : TEnd h₀ env.locals s.heap.objs.size [(s.heap.objs.size, oI)] (J (i + 1)) { s with heap := hh', toks := tk' } s₂ → LoopStepU h₀ env.locals [s.heap.objs.size] own (J (i + 1)) { s with heap := hh', toks := tk' } .next s₂ := by
      rintro ⟨h', tk, m', news', e, F', N', hn, hm⟩
      refine ⟨rfl, h', tk, m', news', e, F', fun p hp => ?_, fun q hq e => hn q hq (List.mem_singleton.mp e), hm⟩
      rcases List.mem_append.mp hp with hp | hp
      · rw [own1 p hp]; exact N' _ (List.mem_append_left _ (.head _))
      · exact N' _ (List.mem_append_right _ hp)
    cases f with
    | ret v => exact .ret p
    | brk => exact .brk p
    | next => exact .next (fin p)
    | cont => exact .cont (fin p)
  · rintro h' tk m' news' F' N' _ hJ
    exact done m' news' h' tk hJ F' N'
end
end
section
open PySem PySem.Calls PySem.W PyProof.Rows
section
variable {prog : Program} {w : World} {A : Around} {E : Value → Shared → Prop} {s : Shared} {env : Env} {h₀ : Heap} {target : PySem.Expr} {body : List Stmt} {Q : Flow → Shared → Prop}
/-- a loop over a list with any target, by what holds of the frame's map and of the ledger between the turns -/
theorem loopT {l : Addr} {items : Array Value} {m₀ : Str → Option Value} {news : List (Addr × Obj)} (J : Nat → (Str → Option Value) → List (Addr × Obj) → Prop)
    (hh : A.handled = none) (hl : s.heap.IsList l items) (hlL : l ≠ env.locals) (F : Fr h₀ env.locals s.heap m₀) (N : News h₀ env.locals s.heap news) (hj : J 0 m₀ news)
    (turn : ∀ i v m₁ news₁ own I oI h tk, items[i]? = some v → J i m₁ news₁ → (∀ q ∈ news₁, q.1 ≠ I) → (∀ p ∈ own, p.1 = I ∨ p.1 = l) → (I, oI) ∈ own → Fr h₀ env.locals h m₁ → News h₀ env.locals h (own ++ news₁) →
      wpAny (model prog w) A (assign target env v) (fun _ s₂ => wpAny (model prog w) A (execs body env) (TPost h₀ env.locals I own (J (i + 1)) { s with heap := h, toks := tk } Q) E s₂) E { s with heap := h, toks := tk })
    (done : ∀ m₁ news₁ h tk, J items.size m₁ news₁ → Fr h₀ env.locals h m₁ → News h₀ env.locals h news₁ → Q .next { s with heap := h, toks := tk }) :
    wpAny (model prog w) A (pyIter (.ref l)) (fun it s₂ => TurnsAt prog w A h₀ env target body Q E it s₂) E s := by
  obtain ⟨ol, hol, hlr⟩ := id hl
  have hlt : l < s.heap.objs.size := Heap.lt_size hol
  have hne : l ≠ s.heap.objs.size := Nat.ne_of_lt hlt
  refine wpAny_pyIter_list hl ?_
  have W := Walks.list (prog := prog) (w := w) hh s.heap.objs.size l hne items
  have hnew : h₀.get? s.heap.objs.size = none := next_is_new F
  refine ⟨_, _, _, items.size, _, _, _, m₀, news, J, rfl, KTurns.ofWalks W fun i v s Q E st q => letGo_listiter st.1 q, ?_, ?_, ?_, ⟨⟨_, Heap.get?_push_size _ rfl, rfl, rfl⟩, hl.at fun o e => Heap.get?_push_of_some _ e⟩, F.push _, (fun p hp => ⟨Heap.get?_push_of_some _ (N p hp).1, (N p hp).2⟩), hj, ?_, ?_⟩
  · intro hm
    rcases List.mem_cons.mp hm with e | hm
    · exact absurd F.ns.lt (e ▸ Nat.lt_irrefl _)
    · exact hlL (List.mem_singleton.mp hm).symm
  · intro b hb
    rw [List.mem_singleton.mp hb]
    exact hnew
  · intro p hp hI
    exact absurd (Heap.lt_size (N p hp).1) ((List.mem_singleton.mp hI) ▸ Nat.lt_irrefl _)
  · rintro i v m₁ news₁ hh' tk' own hin hP hJ hoff hown hget hall hst F₁ N₁
    obtain ⟨⟨oI, hoI, _⟩, _⟩ := hst
    have hI : (s.heap.objs.size, oI) ∈ own := hall _ (.head _) hnew _ hoI
    have off : ∀ q ∈ news₁, q.1 ≠ s.heap.objs.size := fun q hq e => hoff q hq (List.mem_singleton.mpr e)
    refine wpAny_mono (turn i v m₁ news₁ own s.heap.objs.size oI hh' tk' hP hJ off (fun p hp => by
      rcases List.mem_cons.mp (hown p hp) with h1 | h1
      · exact .inl h1
      · exact .inr (List.mem_singleton.mp h1)) hI F₁ N₁) (fun _ s₂ x => wpAny_mono x (fun f s₂ p => ?_) fun _ _ e => e) fun _ _ e => e
    have fin : TEnd h₀ env.locals s.heap.objs.size own (J (i + 1)) { s with heap := hh', toks := tk' } s₂ → LoopStepU h₀ env.locals [s.heap.objs.size] own (J (i + 1)) { s with heap := hh', toks := tk' } .next s₂ := by
      rintro ⟨h', tk, m', news', e, F', N', hn, hm⟩
      exact ⟨rfl, h', tk, m', news', e, F', N', fun q hq e => hn q hq (List.mem_singleton.mp e), hm⟩
    cases f with
    | ret v => exact .ret p
    | brk => exact .brk p
    | next => exact .next (fin p)
    | cont => exact .cont (fin p)
  · rintro h' tk m' news' F' N' _ hJ
    exact done m' news' h' tk hJ F' N'
end
end
section
open PySem PySem.Calls PySem.W PyProof.Rows
section
variable {prog : Program} {w : World} {p : Program} {loose : List Str} {mean : ExcName → Option Value} {mg mb : Str → Option Value}
    {dp un : Nat} {gd : Option (List Code)} {cn : Str} {cs : Scope} {a : Addr} {ccd : Value} {cl : List (Str × Addr)} {outer : List Env} {A₀ : Around} {base h₀ : Heap} {L : Addr} {m : Str → Option Value} {s : Shared} {Q E : Value → Shared → Prop}
/-- one of the tables, behind _law_tables -/
theorem one_tab2 {so th : Addr} {o : Obj} {vs : Array Value} {n : Nat} {rest led : List (Addr × Obj)}
    (B : Below A₀ base outer h₀) (F : Fr h₀ L s.heap m) (X : (Kc w.params).In h₀) (T : Top p loose mean mg mb h₀) (hk : cs.kind = .function)
    (N : News h₀ L s.heap ((th, listOf vs n) :: (led ++ (so, o) :: rest))) (ho : SrcObj o) (hi : All2 (TabRow led) vs.toList kRows) (hne : ∀ p ∈ rest, p.1 ≠ so) (ha : ∀ q ∈ (th, listOf vs n) :: led, ∀ p ∈ (so, o) :: rest, p.1 ≠ q.1)
    (hdp : dp + 3 < recursionLimit) (hun : un + 32 < cLine)
    (ret : ∀ r ∈ kRows, ∀ x px t1 t2 vs n1 n2 o' h' tk' led2, (x, listOf #[.str r.name t1, .int r.code t2, .ref px] n1) ∈ led2 → (px, listOf (List.toArray vs) n2) ∈ led2 → IntsAre vs r.ps → (∀ p ∈ rest, p ∈ led2) → (∀ p ∈ led2, p.1 ≠ so) → Fr h₀ L h' m → News h₀ L h' ((so, o') :: led2) → SrcObj o' → Q (.ref x) { s with heap := h', toks := tk' }) :
    wpAny (model prog w) (ktrTop dp un gd cn cs L a ccd cl outer) (call (.ref 216) [.ref so, .ref th]) Q E s := by
  have hne2 : ∀ p ∈ (th, listOf vs n) :: (led ++ rest), p.1 ≠ so := fun p hp => by
    rcases List.mem_cons.mp hp with rfl | hp
    · exact (ha _ (.head _) _ (.head _)).symm
    · rcases List.mem_append.mp hp with hp | hp
      · exact (ha _ (.tail _ hp) _ (.head _)).symm
      · exact hne p hp
  refine one_tab B F X T hk N (.tail (.app led .head)) ho (.head _) hi hne2 hdp hun fun r hr x px t1 t2 vs' n1 n2 o' h' tk' m1 m2 i1 F' N' ho' => ?_
  exact ret r hr x px t1 t2 vs' n1 n2 o' h' tk' _ (.tail _ (List.mem_append_left _ m1)) (.tail _ (List.mem_append_left _ m2)) i1 (fun p hp => .tail _ (List.mem_append_right _ hp)) hne2 F' N' ho'

/-- a row of told -/
def RowObj (p : Addr × Obj) (r : Row4) : Prop := ∃ t1 t2 t3 t4 n, p.2 = listOf #[.int r.i t1, .int r.a t2, .int r.d t3, .int r.q t4] n
abbrev refsOf (l : List (Addr × Obj)) : List Value := l.map fun p => .ref p.1
abbrev toldObj (kind : Str) (prec hei wid : Int) (rl : Addr) (t1 t2 t3 t4 : Tok) (n : Nat) : Obj := listOf #[.str kind t1, .int prec t2, .int hei t3, .int wid t4, .ref rl] n
def Apart (l rest : List (Addr × Obj)) : Prop := (l.map (·.1)).Nodup ∧ ∀ q ∈ l, ∀ p ∈ rest, p.1 ≠ q.1

theorem pick_sub {a b c d e f : Addr × Obj} {rest led : List (Addr × Obj)} (hs : ∀ p ∈ rest, p ∈ led) : ∀ p ∈ a :: b :: c :: ([] ++ rest), p ∈ a :: d :: b :: c :: e :: f :: led := by
  intro p hp
  simp only [List.nil_append, List.mem_cons] at hp ⊢
  rcases hp with h | h | h | h
  · exact .inl h
  · exact .inr (.inr (.inl h))
  · exact .inr (.inr (.inr (.inl h)))
  · exact .inr (.inr (.inr (.inr (.inr (.inr (hs p h))))))
theorem mem1233 {x : Int} (h : x ∈ [1, 2, 3, 3]) : ∃ k : Nat, x = (k : Int) ∧ 1 ≤ k ∧ k ≤ 3 := ⟨x.toNat, by simp at h; omega, by simp at h; omega, by simp at h; omega⟩
abbrev ToldLed (so : Addr) (o : Obj) (ta : Addr) (kind : Str) (prec hei wid : Int) (rl : Addr) (t1 t2 t3 t4 : Tok) (n1 n2 : Nat) (rowsLed : List (Addr × Obj)) : List (Addr × Obj) :=
  (so, o) :: (ta, toldObj kind prec hei wid rl t1 t2 t3 t4 n1) :: (rl, listOf (refsOf rowsLed).toArray n2) :: rowsLed
def NumJ (so : Addr) (rest : List (Addr × Obj)) (i : Nat) (m₁ : Str → Option Value) (news₁ : List (Addr × Obj)) : Prop :=
  ∃ ta kind prec hei wid rl t1 t2 t3 t4 n1 n2 rows rowsLed o, m₁ "found" = some (.ref ta) ∧ m₁ "source" = some (.ref so) ∧ news₁ = ToldLed so o ta kind prec hei wid rl t1 t2 t3 t4 n1 n2 rowsLed ++ rest ∧ SrcObj o ∧ All2 RowObj rowsLed rows ∧
    KOk kind ∧ rows.length = i ∧ Apart (ToldLed so o ta kind prec hei wid rl t1 t2 t3 t4 n1 n2 rowsLed) rest
theorem apart3 {a b c : Addr × Obj} {rest led : List (Addr × Obj)} (hs : ∀ p ∈ rest, p ∈ led) (hne : ∀ p ∈ led, p.1 ≠ a.1) (h1 : @LT.lt Nat _ a.1 c.1) (h2 : @LT.lt Nat _ c.1 b.1) (l1 : AllLt c.1 led) (l2 : AllLt b.1 led) : Apart [a, b, c] rest := by
  refine ⟨?_, ?_⟩
  · simp only [List.map_cons, List.map_nil, List.nodup_cons, List.mem_cons, List.not_mem_nil, or_false, not_or, List.nodup_nil, and_true, not_false_eq_true]
    refine ⟨⟨?_, ?_⟩, ?_⟩
    · exact Nat.ne_of_lt (Nat.lt_trans h1 h2)
    · exact Nat.ne_of_lt h1
    · exact Nat.ne_of_gt h2
  · intro q hq p hp
    simp only [List.mem_cons, List.not_mem_nil, or_false] at hq
    rcases hq with rfl | rfl | rfl
    · exact hne p (hs p hp)
    · exact allLt_ne l2 p (hs p hp)
    · exact allLt_ne l1 p (hs p hp)
theorem refs_push (l : List (Addr × Obj)) (D : Addr) (o : Obj) : (refsOf l).toArray.push (.ref D) = (refsOf (l ++ [(D, o)])).toArray := by simp
theorem All2.snoc {α β : Type} {R : α → β → Prop} {l : List α} {l' : List β} {x : α} {y : β} (h : All2 R l l') (r : R x y) : All2 R (l ++ [x]) (l' ++ [y]) := by
  induction h with
  | nil => exact .cons r .nil
  | cons a _ ih => exact .cons a ih
theorem num_turn {g h' : Heap} {L I so ta rl D : Addr} {oI o o' : Obj} {kind : Str} {prec hei wid x1 x2 x3 x4 : Int} {s1 s2 s3 s4 t1 t2 t3 t4 : Tok} {n n1 n2 n3 i tk : Nat} {rows : List Row4} {rowsLed rest led all : List (Addr × Obj)} {m' : Str → Option Value} {s₁ : Shared}
    (F : Fr g L h' m') (N : News g L h' all) (hD : (D, listOf #[.int x1 s1, .int x2 s2, .int x3 s3, .int x4 s4] n) ∈ all) (hso : (so, o') ∈ all) (hrl : (rl, listOf ((refsOf rowsLed).toArray.push (.ref D)) n3) ∈ all)
    (hled : ∀ p ∈ led, p ∈ all) (hl2 : ∀ p ∈ (I, oI) :: (ta, toldObj kind prec hei wid rl t1 t2 t3 t4 n1) :: (rowsLed ++ rest), p ∈ led) (hm1 : m' "found" = some (.ref ta)) (hm2 : m' "source" = some (.ref so)) (ho : SrcObj o') (hrows : All2 RowObj rowsLed rows)
    (hkl : KOk kind) (hlen : rows.length = i) (hap : Apart (ToldLed so o ta kind prec hei wid rl t1 t2 t3 t4 n1 n2 rowsLed) rest) (hoff : ∀ q ∈ ToldLed so o ta kind prec hei wid rl t1 t2 t3 t4 n1 n2 rowsLed ++ rest, q.1 ≠ I)
    (h1 : @LT.lt Nat _ so D) (h2 : @LT.lt Nat _ rl D) (h3 : AllLt D led) : TEnd g L I [(I, oI)] (NumJ so rest (i + 1)) s₁ { s₁ with heap := h', toks := tk } := by
  have lt3 := allLt_ne h3
  rw [refs_push rowsLed D (listOf #[.int x1 s1, .int x2 s2, .int x3 s3, .int x4 s4] n)] at hrl
  refine TEnd.intro (news' := ToldLed so o' ta kind prec hei wid rl t1 t2 t3 t4 n1 n3 (rowsLed ++ [(D, listOf #[.int x1 s1, .int x2 s2, .int x3 s3, .int x4 s4] n)]) ++ rest) F N ?_ ?_
    ⟨_, _, _, _, _, _, _, _, _, _, _, _, _, _, _, hm1, hm2, rfl, ho, hrows.snoc (y := ⟨x1, x2, x3, x4⟩) ⟨_, _, _, _, _, rfl⟩, hkl, by simp [hlen], ?_, ?_⟩
  · intro p hp
    simp only [ToldLed, List.cons_append, List.nil_append, List.append_assoc, List.mem_cons, List.mem_append, List.not_mem_nil, or_false, false_or] at hp
    rcases hp with rfl | rfl | rfl | rfl | hp | rfl | hp
    · exact hled _ (hl2 _ (.head _))
    · exact hso
    · exact hled _ (hl2 _ (.tail _ (.head _)))
    · exact hrl
    · exact hled _ (hl2 _ (.tail _ (.tail _ (List.mem_append_left _ hp))))
    · exact hD
    · exact hled _ (hl2 _ (.tail _ (.tail _ (List.mem_append_right _ hp))))
  · intro p hp
    simp only [ToldLed, List.cons_append, List.nil_append, List.append_assoc, List.mem_cons, List.mem_append, List.not_mem_nil, or_false, false_or] at hp
    rcases hp with rfl | rfl | rfl | hp | rfl | hp
    · exact hoff (so, o) (.head _)
    · exact hoff (ta, _) (.tail _ (.head _))
    · exact hoff (rl, listOf (refsOf rowsLed).toArray n2) (.tail _ (.tail _ (.head _)))
    · exact hoff p (.tail _ (.tail _ (.tail _ (List.mem_append_left _ hp))))
    · exact fun e => lt3 _ (hl2 _ (.head _)) e.symm
    · exact hoff p (.tail _ (.tail _ (.tail _ (List.mem_append_right _ hp))))
  · obtain ⟨a1, a2⟩ := hap
    have tD : ta ≠ D := lt3 _ (hl2 _ (.tail _ (.head _)))
    have sD : so ≠ D := Nat.ne_of_lt h1
    have rD : rl ≠ D := Nat.ne_of_lt h2
    have wD : ∀ q ∈ rowsLed, q.1 ≠ D := fun q hq => lt3 _ (hl2 _ (.tail _ (.tail _ (List.mem_append_left _ hq))))
    simp only [ToldLed, List.map_cons, List.map_append, List.map_nil, List.nodup_cons, List.mem_cons, List.mem_append, not_or, List.not_mem_nil, not_false_eq_true, and_true] at a1 ⊢
    obtain ⟨⟨b1, b2, b3⟩, ⟨b4, b5⟩, b6, b7⟩ := a1
    refine ⟨⟨b1, b2, b3, sD⟩, ⟨b4, b5, tD⟩, ⟨b6, rD⟩, ?_⟩
    rw [List.nodup_append]
    refine ⟨b7, by simp, fun x hx y hy => ?_⟩
    obtain ⟨q, hq, rfl⟩ := List.mem_map.mp hx
    rw [List.mem_singleton.mp hy]
    exact wD q hq
  · intro q hq p hp
    simp only [ToldLed, List.mem_cons, List.mem_append, List.not_mem_nil, or_false] at hq
    rcases hq with rfl | rfl | rfl | hq | rfl
    · exact hap.2 (so, o) (.head _) p hp
    · exact hap.2 (ta, _) (.tail _ (.head _)) p hp
    · exact hap.2 (rl, _) (.tail _ (.tail _ (.head _))) p hp
    · exact hap.2 q (.tail _ (.tail _ (.tail _ hq))) p hp
    · exact lt3 _ (hl2 _ (.tail _ (.tail _ (List.mem_append_right _ hp))))
local macro_rules | `(tactic| k_all) => `(tactic| with_reducible assumption)
local macro_rules | `(tactic| k_mem) => `(tactic| first | with_reducible assumption | exact List.mem_cons_self | (refine' List.mem_cons_of_mem _ ?_; k_mem))
local macro_rules | `(tactic| k_offL) => `(tactic| first | exact Pick.head | exact Pick.tail (by k_offL))
local macro_rules | `(tactic| walk_at "call ref") => `(tactic| (k_here; k_dflt (refine' one_ints ?k1 ?k2 ?k3 ?k4 ?k5 ?k6 ?k7 ?k8 ?k9 ?ki ?kl ?km ?k10 ?k12 ?k13 ?_; (case k1 => k_asm); (case k2 => k_asm); (case k3 => k_asm); (case k4 => k_asm); (case k5 => first | exact rfl | assumption); (case k6 => k_asm); (case k7 => k_offL); (case k8 => assumption); (case k9 => k_mem); (case ki => first | assumption | exact (IntsAre.cons _ _ .nil) | exact (IntsAre.cons _ _ (IntsAre.cons _ _ .nil)) | exact (IntsAre.cons _ _ (IntsAre.cons _ _ (IntsAre.cons _ _ .nil))) | exact (IntsAre.cons _ _ (IntsAre.cons _ _ (IntsAre.cons _ _ (IntsAre.cons _ _ .nil)))) | exact (IntsAre.cons _ _ (IntsAre.cons _ _ (IntsAre.cons _ _ (IntsAre.cons _ _ (IntsAre.cons _ _ .nil))))) | exact (IntsAre.cons _ _ (IntsAre.cons _ _ (IntsAre.cons _ _ (IntsAre.cons _ _ (IntsAre.cons _ _ (IntsAre.cons _ _ .nil))))))); (case kl => first | exact (kRows_ps _ (by assumption)).1 | exact Nat.le_of_ble_eq_true rfl); (case km => first | exact (kRows_ps _ (by assumption)).2 | exact Nat.le_of_ble_eq_true rfl); (case k10 => k_all); (case k12 => ktr_room); (case k13 => ktr_units)); intro x' t' o' h' tk' F' N' ho' hx'; (try dsimp only); (try k_fold)))
local macro_rules | `(tactic| walk_at "call ref") => `(tactic| (k_here; k_dflt (refine' one_tab2 ?k1 ?k2 ?k3 ?k4 ?k5 ?k6 ?k8 ?k9 ?k10 ?k11 ?k12 ?k13 ?_; (case k1 => k_asm); (case k2 => k_asm); (case k3 => k_asm); (case k4 => k_asm); (case k5 => first | exact rfl | assumption); (case k6 => k_asm); (case k8 => assumption); (case k9 => assumption); (case k10 => assumption); (case k11 => assumption); (case k12 => ktr_room); (case k13 => ktr_units)); intro r' hr' x' px' t1' t2' vs' n1' n2' o' h' tk' led' hm1' hm2' hi' hs' hne' F' N' ho'; (try dsimp only); (try k_fold)))
local macro_rules | `(tactic| walk_at "call ref") => `(tactic| (k_here; k_dflt (refine' tab_spec ?k1 ?k2 ?k3 ?k4 ?k5 ?k6 ?k12 ?k13 ?_; (case k1 => k_asm); (case k2 => k_asm); (case k3 => k_asm); (case k4 => k_asm); (case k5 => first | exact rfl | assumption); (case k6 => k_asm); (case k12 => ktr_room); (case k13 => ktr_units)); intro tb' vs' n' led' h' tk' F' N' hT' hA'; (try dsimp only); (try k_fold)))

local macro_rules | `(tactic| walk_at "eval Name") => `(tactic| (k_here; k_dflt (refine' ld ?k1 ?k2 ?_; (case k1 => k_asm); (case k2 => first | exact rfl | assumption); k_whole)))
theorem item_at {value slice : PySem.Expr} {l : Addr} {vs : List Value} {k : Int} {u : Tok} {x : Value}
    (hl : s.heap.IsList l vs.toArray) (h0 : 0 ≤ k) (hhi : k < 2 ^ 63) (hx : vs[k.toNat]? = some x) (h : Q x s)
    (hs : subscripted slice false (.ref l) (.int k u) = operate [.ref l, .int k u] (getItem (.ref l) (.int k u)) := by with_unfolding_all rfl) :
    wpAny (model prog w) A₀ (subscriptTail value slice (.ref l) (.int k u)) Q E s :=
  tail_any hl.typeIs slot_list_getitem.lookup (wpAny_getItem_list hl h0 hhi (by simpa using hx) h) hs
local macro_rules | `(tactic| walk_at "subscriptTail") => `(tactic| (k_here; (with_reducible show wpAny _ _ (subscriptTail _ _ (Value.ref _) (Value.int _ _)) _ _ _); k_dflt (refine' item_at (News.isList ?N ?q) ?h1 ?h2 ?h3 ?_ ?h4; (case N => k_asm); (case q => k_mem); (case h1 => decide); (case h2 => decide); (case h3 => exact rfl); (case h4 => with_unfolding_all rfl); k_whole)))
theorem refs_size (l : List (Addr × Obj)) : (refsOf l).toArray.size = l.length := by simp
local macro_rules | `(tactic| walk_at "call builtin:list.append") => `(tactic| (k_here; (with_reducible show wpAny _ _ (call (Value.builtin _) [Value.ref _, _]) _ _ _); k_dflt (refine' append_K ?k1 ?k2 ?k3 ?_ ?z; (case k1 => k_asm); (case k2 => k_asm); (case k3 => k_upd); (case z => assumption); k_whole); intro h' F' N'; (try k_sweep)))
theorem numbers_spec {so : Addr} {o : Obj} {news rest : List (Addr × Obj)}
    (B : Below A₀ base outer h₀) (F : Fr h₀ L s.heap m) (X : (Kc w.params).In h₀) (T : Top p loose mean mg mb h₀) (hk : cs.kind = .function)
    (N : News h₀ L s.heap news) (hp : Pick (so, o) news rest) (ho : SrcObj o) (hne : ∀ p ∈ rest, p.1 ≠ so)
    (hdp : dp + 5 < recursionLimit) (hun : un + 60 < cLine)
    (ret : ∀ ta kind prec hei wid rl t1 t2 t3 t4 n1 n2 rows rowsLed o' h' tk', Fr h₀ L h' m → News h₀ L h' ((so, o') :: (ta, toldObj kind prec hei wid rl t1 t2 t3 t4 n1) :: (rl, listOf (refsOf rowsLed).toArray n2) :: (rowsLed ++ rest)) → SrcObj o' → All2 RowObj rowsLed rows →
      KOk kind → 1 ≤ rows.length → rows.length ≤ 3 → Apart ((so, o') :: (ta, toldObj kind prec hei wid rl t1 t2 t3 t4 n1) :: (rl, listOf (refsOf rowsLed).toArray n2) :: rowsLed) rest → Q (.ref ta) { s with heap := h', toks := tk' }) :
    wpAny (model prog w) (ktrTop dp un gd cn cs L a ccd cl outer) (call (.ref 230) [.ref so]) Q E s := by
  have hfill : (fun (_ : OpenLaw) (_ : Params → Frag) => True) PySem.Challenge.rw_nz0245_01 Kc := by k_fill; trivial
  clear hfill
  have N1 := news_sub N hp.sub
  clear N hp
  refine wpAny_call ?_
  k_dflt cell_enter
  k_steps
  rename_i hh tk1 t1 u1 v1 hR hF hN hK
  obtain ⟨k, hk1, hk2, hk3⟩ := mem1233 (by assumption)
  refine loopR (n := k) (NumJ so rest) rfl hR hk1 ?hn hF (news_sub hN (pick_sub (by assumption))) ?hj ?turn ?done
  case hn => omega
  case hj =>
    refine ⟨_, _, _, _, _, _, _, _, _, _, _, _, [], [], _, ?_, ?_, rfl, by assumption, .nil, kRows_nm _ (by assumption), rfl, ?_⟩
    · rfl
    · rfl
    · refine apart3 (led := _) (by assumption) (by assumption) ?_ ?_ ?_ ?_
      · dsimp only; omega
      · dsimp only; omega
      · dsimp only; first | exact (by with_reducible assumption) | exact (And.right (by with_reducible assumption)) | exact (And.right (And.right (by with_reducible assumption))) | exact (And.right (And.right (And.right (by with_reducible assumption)))) | exact (And.right (And.right (And.right (And.right (by with_reducible assumption))))) | exact (And.right (And.right (And.right (And.right (And.right (by with_reducible assumption)))))) | exact (And.right (And.right (And.right (And.right (And.right (And.right (by with_reducible assumption))))))) | exact (And.right (And.right (And.right (And.right (And.right (And.right (And.right (by with_reducible assumption)))))))) | exact (And.right (And.right (And.right (And.right (And.right (And.right (And.right (And.right (by with_reducible assumption)))))))))
      · dsimp only; first | exact (by with_reducible assumption) | exact (And.right (by with_reducible assumption)) | exact (And.right (And.right (by with_reducible assumption))) | exact (And.right (And.right (And.right (by with_reducible assumption)))) | exact (And.right (And.right (And.right (And.right (by with_reducible assumption))))) | exact (And.right (And.right (And.right (And.right (And.right (by with_reducible assumption)))))) | exact (And.right (And.right (And.right (And.right (And.right (And.right (by with_reducible assumption))))))) | exact (And.right (And.right (And.right (And.right (And.right (And.right (And.right (by with_reducible assumption)))))))) | exact (And.right (And.right (And.right (And.right (And.right (And.right (And.right (And.right (by with_reducible assumption)))))))))
  case turn =>
    rintro i t m₁ news₁ I oI h tk hi ⟨ta, kind, prec, hei, wid, rl, t1, t2, t3, t4, n1, n2, rows, rowsLed, o, hm1, hm2, rfl, ho, hrows, hkl, hlen, hap⟩ hoff F1 N1
    obtain ⟨led, hl1, hl2, hl3, hl4, hsr⟩ : ∃ led : List (Addr × Obj), (∀ p ∈ led, p ∈ (I, oI) :: (ta, toldObj kind prec hei wid rl t1 t2 t3 t4 n1) :: (rowsLed ++ rest)) ∧ (∀ p ∈ (I, oI) :: (ta, toldObj kind prec hei wid rl t1 t2 t3 t4 n1) :: (rowsLed ++ rest), p ∈ led) ∧ (∀ p ∈ led, p.1 ≠ so) ∧ (∀ p ∈ led, p.1 ≠ rl) ∧ (@Ne Nat so rl) := by
      obtain ⟨a1, a2⟩ := hap
      simp only [ToldLed, List.map_cons, List.nodup_cons, List.mem_cons, not_or, List.mem_map, not_exists, not_and] at a1
      refine ⟨_, fun _ h => h, fun _ h => h, ?_, ?_, a1.1.2.1⟩
      · intro p hp
        rcases List.mem_cons.mp hp with rfl | hp
        · exact (hoff (so, o) (.head _)).symm
        · rcases List.mem_cons.mp hp with rfl | hp
          · exact fun e => a1.1.1 e.symm
          · rcases List.mem_append.mp hp with hp | hp
            · exact fun e => a1.1.2.2 p hp e
            · exact a2 (so, o) (.head _) p hp
      · intro p hp
        rcases List.mem_cons.mp hp with rfl | hp
        · exact (hoff (rl, _) (.tail _ (.tail _ (.head _)))).symm
        · rcases List.mem_cons.mp hp with rfl | hp
          · exact fun e => a1.2.1.1 e
          · rcases List.mem_append.mp hp with hp | hp
            · exact fun e => a1.2.2.1 p hp e
            · exact a2 (rl, _) (.tail _ (.tail _ (.head _))) p hp
    have N2 := news_sub (news := (so, o) :: (rl, listOf (refsOf rowsLed).toArray n2) :: led) N1 (fun p hp => by
      rcases List.mem_cons.mp hp with rfl | hp
      · exact .tail _ (.head _)
      · rcases List.mem_cons.mp hp with rfl | hp
        · exact .tail _ (.tail _ (.tail _ (.head _)))
        · rcases List.mem_cons.mp (hl1 p hp) with rfl | hp
          · exact .head _
          · rcases List.mem_cons.mp hp with rfl | hp
            · exact .tail _ (.tail _ (.head _))
            · exact .tail _ (.tail _ (.tail _ (.tail _ hp))))
    have hta := hl2 _ (.tail _ (.head _))
    clear N1
    have hfit : (refsOf rowsLed).toArray.size ≤ sizeLine := by
      have := forall2_len hrows
      rw [refs_size, sizeLine_eq]; omega
    k_steps
    rename_i D h1 lD h2 F2 N2
    exact num_turn F2 N2 (by k_mem) (by k_mem) (by k_mem) (fun p hp => by k_mem) hl2 hm1 hm2 (by assumption) hrows hkl hlen hap hoff (by omega) (by omega) lD.2.2.2.2.2.2.2.2
  case done =>
    rintro m₁ news₁ h tk ⟨ta, kind, prec, hei, wid, rl, t1, t2, t3, t4, n1, n2, rows, rowsLed, o, hm1, hm2, rfl, ho, hrows, hkl, hlen, hap⟩ F1 N1
    k_steps
    exact ret _ _ _ _ _ _ _ _ _ _ _ _ _ _ _ _ _ (by k_asm) (by k_asm) (by assumption) (by assumption) (by assumption) (by omega) (by omega) (by assumption)
end
end
section
open PySem PySem.Calls PySem.W PyProof.Rows
/-- a row of told, in the ledger -/
def RowIn (news : List (Addr × Obj)) (v : Value) (r : Row4) : Prop := ∃ x t1 t2 t3 t4 n, v = .ref x ∧ (x, listOf #[.int r.i t1, .int r.a t2, .int r.d t3, .int r.q t4] n) ∈ news
/-- told, in the ledger -/
def ToldAt (news : List (Addr × Obj)) (ta : Addr) (kind : Str) (prec hei wid : Int) (rows : List Row4) : Prop :=
  ∃ rl t1 t2 t3 t4 n1 vs n2, (ta, toldObj kind prec hei wid rl t1 t2 t3 t4 n1) ∈ news ∧ (rl, listOf (List.toArray vs) n2) ∈ news ∧ All2 (RowIn news) vs rows
theorem All2.imp {α β : Type} {R R' : α → β → Prop} {l : List α} {l' : List β} (h : All2 R l l') (f : ∀ a b, R a b → R' a b) : All2 R' l l' := by
  induction h with
  | nil => exact .nil
  | cons a _ ih => exact .cons (f _ _ a) ih
theorem RowIn.mono {news news' : List (Addr × Obj)} {v : Value} {r : Row4} (h : RowIn news v r) (hs : ∀ p ∈ news, p ∈ news') : RowIn news' v r :=
  let ⟨x, t1, t2, t3, t4, n, e, hm⟩ := h
  ⟨x, t1, t2, t3, t4, n, e, hs _ hm⟩
theorem rows_refs {l : List (Addr × Obj)} {rows : List Row4} (h : All2 RowObj l rows) (news : List (Addr × Obj)) (hs : ∀ p ∈ l, p ∈ news) : All2 (RowIn news) (refsOf l) rows := by
  induction h with
  | nil => exact .nil
  | cons a _ ih =>
    obtain ⟨t1, t2, t3, t4, n, e⟩ := a
    refine .cons ⟨_, t1, t2, t3, t4, n, rfl, ?_⟩ (ih fun p hp => hs p (.tail _ hp))
    rw [← e]; exact hs _ (.head _)
theorem rows_turned {l : List (Addr × Obj)} {rows : List Row4} (h : All2 RowObj l rows) (news : List (Addr × Obj)) {d : Addr} {r' : Row4} {t1 t2 t3 t4 : Tok} {n : Nat} (hs : ∀ p ∈ l, p.1 ≠ d → p ∈ news) (hd : (d, listOf #[.int r'.i t1, .int r'.a t2, .int r'.d t3, .int r'.q t4] n) ∈ news) :
    ∃ rows', All2 (RowIn news) (refsOf l) rows' ∧ rows'.length = rows.length := by
  induction h with
  | nil => exact ⟨[], .nil, rfl⟩
  | cons a _ ih =>
    obtain ⟨rows', h1, h2⟩ := ih fun p hp => hs p (.tail _ hp)
    rename_i p r l rows _
    by_cases e : p.1 = d
    · exact ⟨r' :: rows', .cons ⟨_, _, _, _, _, _, rfl, by rw [e]; exact hd⟩ h1, by simp [h2]⟩
    · obtain ⟨t1, t2, t3, t4, n, e'⟩ := a
      exact ⟨r :: rows', .cons ⟨_, t1, t2, t3, t4, n, rfl, by rw [← e']; exact hs _ (.head _) e⟩ h1, by simp [h2]⟩
theorem rows_rep {news : List (Addr × Obj)} {v : Value} {r : Row4} (h : RowIn news v r) : ∀ k, All2 (RowIn news) (List.replicate k v) (List.replicate k r)
  | 0 => .nil
  | k + 1 => .cons h (rows_rep h k)
theorem told_fin {h₀ h' : Heap} {L so ta rl : Addr} {o' : Obj} {all rest : List (Addr × Obj)} {kind : Str} {prec hei wid : Int} {t1 t2 t3 t4 : Tok} {n1 n2 : Nat} {vs : List Value} {rows : List Row4}
    (N : News h₀ L h' all) (hso : (so, o') ∈ all) (hta : (ta, toldObj kind prec hei wid rl t1 t2 t3 t4 n1) ∈ all) (hrl : (rl, listOf vs.toArray n2) ∈ all) (hrows : All2 (RowIn (all.filter fun p => decide (p.1 ≠ so))) vs rows)
    (d1 : @Ne Nat ta so) (d2 : @Ne Nat rl so) (hrest : ∀ p ∈ rest, p ∈ all) (hne : ∀ p ∈ rest, p.1 ≠ so) : ∃ rest', News h₀ L h' ((so, o') :: rest') ∧ (∀ p ∈ rest', p.1 ≠ so) ∧ (∀ p ∈ rest, p ∈ rest') ∧ ToldAt rest' ta kind prec hei wid rows := by
  refine ⟨all.filter fun p => decide (p.1 ≠ so), ?_, ?_, ?_, rl, t1, t2, t3, t4, n1, vs, n2, ?_, ?_, hrows⟩
  · intro p hp
    rcases List.mem_cons.mp hp with rfl | hp
    · exact N _ hso
    · exact N _ (List.mem_filter.mp hp).1
  · intro p hp; exact of_decide_eq_true (List.mem_filter.mp hp).2
  · intro p hp; exact List.mem_filter.mpr ⟨hrest p hp, decide_eq_true (hne p hp)⟩
  · exact List.mem_filter.mpr ⟨hta, decide_eq_true d1⟩
  · exact List.mem_filter.mpr ⟨hrl, decide_eq_true d2⟩
section
variable {prog : Program} {w : World} {A : Around} {E : Value → Shared → Prop} {s : Shared} {h₀ h : Heap} {L d : Addr} {m : Str → Option Value} {news : List (Addr × Obj)} {its : Array Value} {n : Nat}
theorem set_any {k : Int} {t : Tok} {v : Value} {Q : Unit → Shared → Prop} (F : Fr h₀ L s.heap m) (N : News h₀ L s.heap news) (hd : (d, listOf its n) ∈ news) (h0 : 0 ≤ k) (hfit : k < 2 ^ 63) (hk : k < its.size)
    (h : ∀ h' news', Fr h₀ L h' m → News h₀ L h' news' → (∀ p ∈ news, p.1 ≠ d → p ∈ news') → (d, listOf (its.setIfInBounds k.toNat v) n) ∈ news' → Q () { s with heap := h' }) : wpAny (model prog w) A (setItem (.ref d) (.int k t) v) Q E s := by
  have z := N _ hd
  have N1 : News h₀ L s.heap ([] ++ (d, listOf its n) :: news.filter fun p => decide (p.1 ≠ d)) := fun p hp => by
    rcases List.mem_cons.mp hp with rfl | hp
    · exact z
    · exact N _ (List.mem_filter.mp hp).1
  refine ki_setAt z.1 h0 hfit hk (h _ _ (F.change (Heap.SameBut.update ..) z.2.1 z.2.2) (ki_turn _ N1 (fun _ h => nomatch h) (fun p hp => of_decide_eq_true (List.mem_filter.mp hp).2) rfl ?_) (fun p hp e => List.mem_append_right _ (.tail _ (List.mem_filter.mpr ⟨hp, decide_eq_true e⟩))) (List.mem_append_right _ (.head _)))
  simp
end
theorem subsc_const {c : Const} {k : Nat} {p : Pos} {a b : Value} : subscripted (.Constant c k p) false a b = operate [a, b] (getItem a b) := rfl
theorem subsc_binop {x y : PySem.Expr} {o : Operator} {p : Pos} {a b : Value} : subscripted (.BinOp x o y p) false a b = operate [a, b] (getItem a b) := rfl
theorem subsc_call {x : PySem.Expr} {l : List PySem.Expr} {kw : List Keyword} {p : Pos} {a b : Value} : subscripted (.Call x l kw p) false a b = operate [a, b] (getItem a b) := rfl
theorem subsc_name {x : Str} {p : Pos} {a b : Value} : subscripted (.Name x p) false a b = operate [a, b] (getItem a b) := rfl
theorem split12 {d : Int} (h0 : 0 ≤ d) (h1 : d < 12) : d = 0 ∨ d = 1 ∨ d = 2 ∨ d = 3 ∨ d = 4 ∨ d = 5 ∨ d = 6 ∨ d = 7 ∨ d = 8 ∨ d = 9 ∨ d = 10 ∨ d = 11 := by omega
theorem split2 {d : Int} (h0 : 0 ≤ d) (h1 : d < 2) : d = 0 ∨ d = 1 := by omega
end
section
open PySem PySem.Calls PySem.W PyProof.Rows
theorem slice_first {l : List (Addr × Obj)} {q : Addr × Obj} : slicePick (refsOf (q :: l)).toArray none (some 1) none = #[.ref q.1] := by
  rw [kms_pick_eq]
  have : min 1 (l.length + 1) = 1 := by omega
  simp [kms_pick, kms_lo, kms_hi, this]
theorem foldl_one (v : Value) : ∀ (k : Nat) (acc : Array Value), List.foldl (fun x1 x2 => x1 ++ x2) acc (List.replicate k #[v]) = acc ++ (List.replicate k v).toArray
  | 0, acc => by simp
  | k + 1, acc => by
    rw [List.replicate_succ, List.foldl_cons, foldl_one v k]
    apply Array.toList_inj.mp
    simp [List.replicate_succ]
section
variable {prog : Program} {w : World} {A : Around} {E : Value → Shared → Prop} {s : Shared} {h₀ h : Heap} {L d : Addr} {m : Str → Option Value} {news : List (Addr × Obj)} {its : Array Value} {n : Nat}
theorem rep_K {sl : Addr} {l : List (Addr × Obj)} {u : Tok} {Q : Value → Shared → Prop} (F : Fr h₀ L s.heap m) (N : News h₀ L s.heap news) (hm : (sl, ({ cls := .type "list", data := .seq (slicePick (refsOf l).toArray none (some 1) none) } : Obj)) ∈ news) (hl : 1 ≤ l.length)
    (h : ∀ q ∈ l, ∀ D h', Fr h₀ L h' m → News h₀ L h' ((D, listOf (List.replicate 256 (Value.ref q.1)).toArray 0) :: news) → (∀ p ∈ news, p.1 < D) → Q (.ref D) { s with heap := h' }) : wpAny (model prog w) A (binaryOp .Mult (.ref sl) (.int 256 u)) Q E s := by
  match l, hl, hm, h with
  | q :: r, _, hm, h =>
    rw [slice_first] at hm
    refine mul_list F N (N _ hm).1 (by decide) (by decide) (by show 1 * 256 ≤ 2 ^ 24; decide) fun h' F' N' => h q (.head _) _ h' F' ?_ fun p hp => Heap.lt_size (N p hp).1
    have e : (if (#[Value.ref q.1] : Array Value).isEmpty = true then 0 else (256 : Int).toNat) = 256 := rfl
    rw [e, foldl_one] at N'
    have e2 : (#[] : Array Value) ++ (List.replicate 256 (Value.ref q.1)).toArray = (List.replicate 256 (Value.ref q.1)).toArray := by
      apply Array.toList_inj.mp; simp
    rw [e2] at N'
    exact N'
theorem row_obj {l : List (Addr × Obj)} {rows : List Row4} (h : All2 RowObj l rows) : ∀ q ∈ l, ∃ (r : Row4) (t1 t2 t3 t4 : Tok) (n : Nat), q = (q.1, listOf #[.int r.i t1, .int r.a t2, .int r.d t3, .int r.q t4] n) := by
  induction h with
  | nil => intro q hq; exact absurd hq (List.not_mem_nil)
  | cons a _ ih =>
    intro q hq
    rcases List.mem_cons.mp hq with rfl | hq
    · obtain ⟨t1, t2, t3, t4, n, e⟩ := a
      exact ⟨_, t1, t2, t3, t4, n, Prod.ext rfl e⟩
    · exact ih q hq
theorem row_item {value slice : PySem.Expr} {l : Addr} {rl tl : List (Addr × Obj)} {rows : List Row4} {k : Int} {u : Tok} {Q : Value → Shared → Prop}
    (N : News h₀ L s.heap news) (hl : (l, listOf (refsOf rl).toArray n) ∈ news) (hrows : All2 RowObj rl rows) (hw : ∀ p ∈ rl, p ∈ tl) (h0 : 0 ≤ k) (h1 : k < ((refsOf rl).toArray.size : Int)) (hf : ((refsOf rl).toArray.size : Int) < 2 ^ 63) (h : ∀ (x : Addr) (r : Row4) (t1 t2 t3 t4 : Tok) (n' : Nat), (x, listOf #[.int r.i t1, .int r.a t2, .int r.d t3, .int r.q t4] n') ∈ tl → (∃ o, (x, o) ∈ rl) → Q (.ref x) s)
    (hs : subscripted slice false (.ref l) (.int k u) = operate [.ref l, .int k u] (getItem (.ref l) (.int k u))) :
    wpAny (model prog w) A (subscriptTail value slice (.ref l) (.int k u)) Q E s := by
  have hk : k.toNat < rl.length := by rw [refs_size] at h1; omega
  obtain ⟨r, t1, t2, t3, t4, n', e⟩ := row_obj hrows rl[k.toNat] (List.getElem_mem hk)
  refine item_at (News.isList N hl) h0 (by omega) (x := .ref rl[k.toNat].1) ?_ (h _ r t1 t2 t3 t4 n' (by rw [← e]; exact hw _ (List.getElem_mem hk)) ⟨_, List.getElem_mem hk⟩) hs
  simp [refsOf, hk]
theorem mem4 {a b c d x : Addr × Obj} {l : List (Addr × Obj)} (h : x ∈ [a, b, c, d]) (ha : a ∈ l) (hb : b ∈ l) (hc : c ∈ l) (hd : d ∈ l) : x ∈ l := by
  simp only [List.mem_cons, List.not_mem_nil, or_false] at h
  rcases h with rfl | rfl | rfl | rfl <;> assumption
theorem odd_item2 {value slice : PySem.Expr} {l v0 v1 v2 v3 : Addr} {b0 b1 b2 b3 : List Value} {c0 c1 c2 c3 : List Int} {n0 n1 n2 n3 : Nat} {k : Int} {u : Tok} {Q : Value → Shared → Prop}
    (N : News h₀ L s.heap news) (hl : (l, listOf #[.ref v0, .ref v1, .ref v2, .ref v3] n) ∈ news) (h0 : 0 ≤ k) (h1 : k < 4)
    (m0 : (v0, listOf b0.toArray n0) ∈ news) (m1 : (v1, listOf b1.toArray n1) ∈ news) (m2 : (v2, listOf b2.toArray n2) ∈ news) (m3 : (v3, listOf b3.toArray n3) ∈ news) (i0 : IntsAre b0 c0) (i1 : IntsAre b1 c1) (i2 : IntsAre b2 c2) (i3 : IntsAre b3 c3)
    (z0 : 1 ≤ c0.length ∧ c0.length ≤ 1000) (z1 : 1 ≤ c1.length ∧ c1.length ≤ 1000) (z2 : 1 ≤ c2.length ∧ c2.length ≤ 1000) (z3 : 1 ≤ c3.length ∧ c3.length ≤ 1000)
    (q : ∀ v b c n', (v, listOf (List.toArray b) n') ∈ [(v0, listOf b0.toArray n0), (v1, listOf b1.toArray n1), (v2, listOf b2.toArray n2), (v3, listOf b3.toArray n3)] → IntsAre b c → 1 ≤ c.length → c.length ≤ 1000 → Q (.ref v) s)
    (hs : subscripted slice false (.ref l) (.int k u) = operate [.ref l, .int k u] (getItem (.ref l) (.int k u))) :
    wpAny (model prog w) A (subscriptTail value slice (.ref l) (.int k u)) Q E s := by
  have hk : k = 0 ∨ k = 1 ∨ k = 2 ∨ k = 3 := by omega
  rcases hk with rfl | rfl | rfl | rfl
  · exact item_at (vs := [_, _, _, _]) (News.isList N hl) (by decide) (by decide) rfl (q _ _ _ _ (.head _) i0 z0.1 z0.2) hs
  · exact item_at (vs := [_, _, _, _]) (News.isList N hl) (by decide) (by decide) rfl (q _ _ _ _ (.tail _ (.head _)) i1 z1.1 z1.2) hs
  · exact item_at (vs := [_, _, _, _]) (News.isList N hl) (by decide) (by decide) rfl (q _ _ _ _ (.tail _ (.tail _ (.head _))) i2 z2.1 z2.2) hs
  · exact item_at (vs := [_, _, _, _]) (News.isList N hl) (by decide) (by decide) rfl (q _ _ _ _ (.tail _ (.tail _ (.tail _ (.head _)))) i3 z3.1 z3.2) hs
end
theorem told_sym {ta rl : Addr} {news : List (Addr × Obj)} {kind : Str} {prec hei wid k x : Int} {t1 t2 t3 t4 t : Tok} {n : Nat} (h : (ta, listOf (#[.str kind t1, .int prec t2, .int hei t3, .int wid t4, .ref rl].setIfInBounds k.toNat (.int x t)) n) ∈ news) (h0 : 0 ≤ k) (h1 : k ≠ 0) (h4 : k < 4) :
    ∃ prec hei wid t2 t3 t4, (ta, toldObj kind prec hei wid rl t1 t2 t3 t4 n) ∈ news := by
  have hk : k = 1 ∨ k = 2 ∨ k = 3 := by omega
  rcases hk with rfl | rfl | rfl
  · exact ⟨_, _, _, _, _, _, h⟩
  · exact ⟨_, _, _, _, _, _, h⟩
  · exact ⟨_, _, _, _, _, _, h⟩
theorem told_end0 {h' : Heap} {h₀ : Heap} {L so ta rl' : Addr} {o' : Obj} {L0 news' tl rest : List (Addr × Obj)} {kind : Str} {prec hei wid : Int} {t1 t2 t3 t4 : Tok} {n1 n2 : Nat} {vs : List Value} {rows : List Row4}
    (N : News h₀ L h' news') (hold : ∀ p ∈ L0, p.1 ≠ ta → p ∈ news') (hnew : (ta, toldObj kind prec hei wid rl' t1 t2 t3 t4 n1) ∈ news') (hso : (so, o') ∈ L0) (hrl : (rl', listOf vs.toArray n2) ∈ L0) (d1 : @Ne Nat rl' ta) (d2 : @Ne Nat rl' so) (d3 : @Ne Nat so ta)
    (htl : ∀ p ∈ tl, p ∈ L0) (hrows : All2 (RowIn tl) vs rows) (dt : ∀ p ∈ tl, p.1 ≠ ta) (ds : ∀ p ∈ tl, p.1 ≠ so) (hrest : ∀ p ∈ rest, p ∈ tl) :
    ∃ rest', News h₀ L h' ((so, o') :: rest') ∧ (∀ p ∈ rest', p.1 ≠ so) ∧ (∀ p ∈ rest, p ∈ rest') ∧ ToldAt rest' ta kind prec hei wid rows :=
  told_fin N (hold _ hso d3) hnew (hold _ hrl d1) (hrows.imp fun a b h => h.mono fun p hp => List.mem_filter.mpr ⟨hold p (htl p hp) (dt p hp), decide_eq_true (ds p hp)⟩) (Ne.symm d3) d2 (fun p hp => hold p (htl p (hrest p hp)) (dt p (hrest p hp))) (fun p hp => ds p (hrest p hp))
theorem told_end1 {h' : Heap} {h₀ : Heap} {L so ta rl x : Addr} {o' o'' : Obj} {L0 news' tl rest rowsLed : List (Addr × Obj)} {kind : Str} {prec hei wid : Int} {t1 t2 t3 t4 s1 s2 s3 s4 s5 : Tok} {n1 n2 n3 : Nat} {rows : List Row4} {r : Row4} {k y : Int}
    (N : News h₀ L h' news') (hold : ∀ p ∈ L0, p.1 ≠ x → p ∈ news') (hnew : (x, listOf (#[.int r.i s1, .int r.a s2, .int r.d s3, .int r.q s4].setIfInBounds k.toNat (.int y s5)) n3) ∈ news') (hx : (x, o'') ∈ rowsLed) (h0 : 0 ≤ k) (h1 : k < 4)
    (hso : (so, o') ∈ L0) (hta : (ta, toldObj kind prec hei wid rl t1 t2 t3 t4 n1) ∈ L0) (hrl : (rl, listOf (refsOf rowsLed).toArray n2) ∈ L0) (d3 : @Ne Nat so ta) (d4 : @Ne Nat so rl) (hw : ∀ p ∈ rowsLed, p ∈ tl) (hrows : All2 RowObj rowsLed rows)
    (htl : ∀ p ∈ tl, p ∈ L0) (dt : ∀ p ∈ tl, p.1 ≠ ta) (ds : ∀ p ∈ tl, p.1 ≠ so) (dr : ∀ p ∈ tl, p.1 ≠ rl) (hrest : ∀ p ∈ rest, p ∈ tl) (hrx : ∀ p ∈ rest, p.1 ≠ x) :
    ∃ rest' rows', News h₀ L h' ((so, o') :: rest') ∧ (∀ p ∈ rest', p.1 ≠ so) ∧ (∀ p ∈ rest, p ∈ rest') ∧ ToldAt rest' ta kind prec hei wid rows' ∧ rows'.length = rows.length := by
  have hxt := hw _ hx
  obtain ⟨r', u1, u2, u3, u4, hnew'⟩ : ∃ (r' : Row4) (u1 u2 u3 u4 : Tok), (x, listOf #[.int r'.i u1, .int r'.a u2, .int r'.d u3, .int r'.q u4] n3) ∈ news' := by
    have hk : k = 0 ∨ k = 1 ∨ k = 2 ∨ k = 3 := by omega
    rcases hk with rfl | rfl | rfl | rfl
    · exact ⟨⟨y, r.a, r.d, r.q⟩, s5, s2, s3, s4, hnew⟩
    · exact ⟨⟨r.i, y, r.d, r.q⟩, s1, s5, s3, s4, hnew⟩
    · exact ⟨⟨r.i, r.a, y, r.q⟩, s1, s2, s5, s4, hnew⟩
    · exact ⟨⟨r.i, r.a, r.d, y⟩, s1, s2, s3, s5, hnew⟩
  obtain ⟨rows', g1, g2⟩ := rows_turned hrows (news'.filter fun p => decide (p.1 ≠ so)) (d := x) (fun p hp e => List.mem_filter.mpr ⟨hold p (htl p (hw p hp)) e, decide_eq_true (ds p (hw p hp))⟩) (List.mem_filter.mpr ⟨hnew', decide_eq_true (show x ≠ so from ds _ hxt)⟩)
  obtain ⟨rest', f1, f2, f3, f4⟩ := told_fin N (hold _ hso (ds _ hxt).symm) (hold _ hta (dt _ hxt).symm) (hold _ hrl (dr _ hxt).symm) g1 (Ne.symm d3) (Ne.symm d4) (fun p hp => hold p (htl p (hrest p hp)) (hrx p hp)) (fun p hp => ds p (hrest p hp))
  exact ⟨rest', rows', f1, f2, f3, f4, g2⟩
end
section
open PySem PySem.Calls PySem.W PyProof.Rows
section
variable {news : List (Addr × Obj)} {prog : Program} {w : World} {p : Program} {loose : List Str} {mean : ExcName → Option Value} {mg mb : Str → Option Value}
    {dp un : Nat} {gd : Option (List Code)} {cn : Str} {cs : Scope} {a : Addr} {ccd : Value} {cl : List (Str × Addr)} {outer : List Env} {A₀ : Around} {base h₀ : Heap} {L : Addr} {m : Str → Option Value} {s : Shared} {Q E : Value → Shared → Prop}
local macro_rules | `(tactic| k_all) => `(tactic| with_reducible assumption)
local macro_rules | `(tactic| k_mem) => `(tactic| first | with_reducible assumption | exact List.mem_cons_self | (refine' List.mem_cons_of_mem _ ?_; k_mem))
local macro_rules | `(tactic| k_offL) => `(tactic| first | exact Pick.head | exact Pick.tail (by k_offL))
local macro_rules | `(tactic| walk_at "subscriptTail") => `(tactic| (k_here; (with_reducible show wpAny _ _ (subscriptTail _ _ (Value.ref _) (Value.int _ _)) _ _ _); k_dflt (refine' item_at (News.isList ?N ?q) ?h1 ?h2 ?h3 ?_ ?h4; (case N => k_asm); (case q => k_mem); (case h1 => decide); (case h2 => decide); (case h3 => exact rfl); (case h4 => first | exact subsc_const | exact subsc_binop | exact subsc_call | exact subsc_name); k_whole)))
local macro_rules | `(tactic| walk_at "call builtin:len") => `(tactic| (k_here; (with_reducible show wpAny _ _ (call (Value.builtin "len") [Value.ref _]) _ _ _); k_dflt (refine' len_list (News.isList ?N ?q) ?h ?_; (case N => k_asm); (case q => k_mem); (case h => assumption); k_whole)))
local macro_rules | `(tactic| walk_at "call ref") => `(tactic| (k_here; k_dflt (refine' one_ints ?k1 ?k2 ?k3 ?k4 ?k5 ?k6 ?k7 ?k8 ?k9 ?ki ?kl ?km ?k10 ?k12 ?k13 ?_; (case k1 => k_asm); (case k2 => k_asm); (case k3 => k_asm); (case k4 => k_asm); (case k5 => first | exact rfl | assumption); (case k6 => k_asm); (case k7 => k_offL); (case k8 => assumption); (case k9 => first | k_mem | exact mem4 (by assumption) (by k_mem) (by k_mem) (by k_mem) (by k_mem)); (case ki => first | assumption | exact (IntsAre.cons _ _ (IntsAre.cons _ _ .nil)) | exact (IntsAre.cons _ _ (IntsAre.cons _ _ (IntsAre.cons _ _ .nil))) | exact (IntsAre.cons _ _ (IntsAre.cons _ _ (IntsAre.cons _ _ (IntsAre.cons _ _ (IntsAre.cons _ _ (IntsAre.cons _ _ .nil)))))) ); (case kl => first | assumption | exact Nat.le_of_ble_eq_true rfl); (case km => first | assumption | exact Nat.le_of_ble_eq_true rfl); (case k10 => k_all); (case k12 => ktr_room); (case k13 => ktr_units)); intro x' t' o' h' tk' F' N' ho' hx'; (try dsimp only); (try k_fold)))
local macro_rules | `(tactic| walk_at "call ref") => `(tactic| (k_here; k_dflt (refine' one_strs ?k1 ?k2 ?k3 ?k4 ?k5 ?k6 ?k7 ?k8 ?k9 ?ki ?kl ?km ?k10 ?k12 ?k13 ?_; (case k1 => k_asm); (case k2 => k_asm); (case k3 => k_asm); (case k4 => k_asm); (case k5 => first | exact rfl | assumption); (case k6 => k_asm); (case k7 => k_offL); (case k8 => assumption); (case k9 => k_mem); (case ki => exact List.forall_mem_cons.mpr ⟨⟨_, _, rfl, by decide +kernel⟩, List.forall_mem_cons.mpr ⟨⟨_, _, rfl, by decide +kernel⟩, List.forall_mem_cons.mpr ⟨⟨_, _, rfl, by decide +kernel⟩, List.forall_mem_nil _⟩⟩⟩); (case kl => first | assumption | exact Nat.le_of_ble_eq_true rfl); (case km => first | assumption | exact Nat.le_of_ble_eq_true rfl); (case k10 => k_all); (case k12 => ktr_room); (case k13 => ktr_units)); intro x' t' o' h' tk' F' N' ho' hx'; (try dsimp only); (try k_fold)))
local macro_rules | `(tactic| walk_at "call ref") => `(tactic| (k_here; k_dflt (refine' take_spec ?k1 ?k2 ?k3 ?k4 ?k5 ?k6 ?k7 ?k8 ?k9 ?k10 ?k11 ?k12 ?k13 ?_; (case k1 => k_asm); (case k2 => k_asm); (case k3 => k_asm); (case k4 => k_asm); (case k5 => first | exact rfl | assumption); (case k6 => k_asm); (case k7 => k_offL); (case k8 => assumption); (case k9 => k_all); (case k10 => first | decide | omega); (case k11 => first | decide | omega); (case k12 => ktr_room); (case k13 => ktr_units)); intro d' t' o' h' tk' F' N' hs' hd0' hd1'; (try dsimp only); (try k_fold)))

local macro_rules | `(tactic| walk_at "subscriptTail") => `(tactic| (k_here; (with_reducible show wpAny _ _ (subscriptTail _ (Expr.BinOp _ _ _ _) (Value.ref _) (Value.int _ _)) _ _ _); k_dflt (refine' odd_item2 ?N ?q ?h1 ?h2 ?m0 ?m1 ?m2 ?m3 ?i0 ?i1 ?i2 ?i3 ?z0 ?z1 ?z2 ?z3 ?_ ?h4; (case N => k_asm); (case q => k_mem); (case h1 => omega); (case h2 => omega); (case m0 => k_mem); (case m1 => k_mem); (case m2 => k_mem); (case m3 => k_mem); (case i0 => exact (IntsAre.cons _ _ (IntsAre.cons _ _ .nil))); (case i1 => exact (IntsAre.cons _ _ (IntsAre.cons _ _ (IntsAre.cons _ _ .nil)))); (case i2 => exact (IntsAre.cons _ _ (IntsAre.cons _ _ .nil))); (case i3 => exact (IntsAre.cons _ _ (IntsAre.cons _ _ .nil))); (case z0 => exact ⟨Nat.le_of_ble_eq_true rfl, Nat.le_of_ble_eq_true rfl⟩); (case z1 => exact ⟨Nat.le_of_ble_eq_true rfl, Nat.le_of_ble_eq_true rfl⟩); (case z2 => exact ⟨Nat.le_of_ble_eq_true rfl, Nat.le_of_ble_eq_true rfl⟩); (case z3 => exact ⟨Nat.le_of_ble_eq_true rfl, Nat.le_of_ble_eq_true rfl⟩); (case h4 => first | exact subsc_const | exact subsc_binop | exact subsc_call | exact subsc_name)); intro v' b' c' n' hv' hi' hz0' hz1'; (try dsimp only)))
local macro_rules | `(tactic| walk_at "subscriptTail") => `(tactic| (k_here; (with_reducible show wpAny _ _ (subscriptTail _ (Expr.Call _ _ _ _) (Value.ref _) (Value.int _ _)) _ _ _); k_dflt (refine' row_item ?N ?q ?hr ?hw ?h1 ?h2 ?h3 ?_ ?h4; (case N => k_asm); (case q => k_mem); (case hr => assumption); (case hw => assumption); (case h1 => first | with_reducible assumption | omega); (case h2 => first | with_reducible assumption | omega); (case h3 => with_reducible assumption); (case h4 => first | exact subsc_const | exact subsc_binop | exact subsc_call | exact subsc_name)); intro x' r' u1' u2' u3' u4' n' hm' hx'; (try dsimp only)))
local macro_rules | `(tactic| walk_at "setItem ref int") => `(tactic| (k_here; k_dflt (refine' set_any ?F ?N ?d ?h0 ?h1 ?h2 ?_; (case F => k_asm); (case N => k_asm); (case d => k_mem); (case h0 => first | decide | omega); (case h1 => first | decide | omega); (case h2 => first | decide | (show _ < (5 : Int); omega) | (show _ < (4 : Int); omega)); k_whole); intro h' news' F' N' hold' hnew'; (try k_sweep)))
local macro_rules | `(tactic| walk_at "binaryOp Mult ref int") => `(tactic| (k_here; k_dflt (refine' rep_K ?F ?N ?d ?h0 ?_; (case F => k_asm); (case N => k_asm); (case d => k_mem); (case h0 => assumption); k_whole); intro q' hq' D' h' F' N' l1'; replace l1' := allLt_of l1'; (try simp only [AllLt, and_true] at l1'); (try k_sweep)))
theorem spoilt_spec {so ta rl : Addr} {o : Obj} {kind : Str} {prec hei wid : Int} {t1 t2 t3 t4 : Tok} {n1 n2 : Nat} {rows : List Row4} {rowsLed news rest : List (Addr × Obj)}
    (B : Below A₀ base outer h₀) (F : Fr h₀ L s.heap m) (X : (Kc w.params).In h₀) (T : Top p loose mean mg mb h₀) (hk : cs.kind = .function)
    (N : News h₀ L s.heap news) (hs : ∀ p ∈ ToldLed so o ta kind prec hei wid rl t1 t2 t3 t4 n1 n2 rowsLed ++ rest, p ∈ news) (ho : SrcObj o) (hrows : All2 RowObj rowsLed rows) (hkl : KOk kind) (hr1 : 1 ≤ rows.length) (hr3 : rows.length ≤ 3)
    (hap : Apart (ToldLed so o ta kind prec hei wid rl t1 t2 t3 t4 n1 n2 rowsLed) rest)
    (hdp : dp + 5 < recursionLimit) (hun : un + 60 < cLine)
    (ret : ∀ kind prec hei wid rows o' rest' h' tk', Fr h₀ L h' m → News h₀ L h' ((so, o') :: rest') → SrcObj o' → (∀ p ∈ rest', p.1 ≠ so) → (∀ p ∈ rest, p ∈ rest') → ToldAt rest' ta kind prec hei wid rows → KOk kind → rows.length ≤ 1000 → Q (.ref ta) { s with heap := h', toks := tk' }) :
    wpAny (model prog w) (ktrTop dp un gd cn cs L a ccd cl outer) (call (.ref 237) [.ref so, .ref ta]) Q E s := by
  have hfill : (fun (_ : OpenLaw) (_ : Params → Frag) => True) PySem.Challenge.rw_nz0245_01 Kc := by k_fill; trivial
  clear hfill
  obtain ⟨tl, hw, hrst, htl, ds, dt, dr⟩ : ∃ tl : List (Addr × Obj), (∀ p ∈ rowsLed, p ∈ tl) ∧ (∀ p ∈ rest, p ∈ tl) ∧ (∀ p ∈ tl, p ∈ rowsLed ++ rest) ∧ (∀ p ∈ tl, p.1 ≠ so) ∧ (∀ p ∈ tl, p.1 ≠ ta) ∧ (∀ p ∈ tl, p.1 ≠ rl) := by
    obtain ⟨a1, a2⟩ := hap
    simp only [ToldLed, List.map_cons, List.nodup_cons, List.mem_cons, not_or, List.mem_map, not_exists, not_and] at a1
    refine ⟨rowsLed ++ rest, fun _ h => List.mem_append_left _ h, fun _ h => List.mem_append_right _ h, fun _ h => h, fun p hp => ?_, fun p hp => ?_, fun p hp => ?_⟩ <;> rcases List.mem_append.mp hp with hp | hp
    · exact a1.1.2.2 p hp
    · exact a2 (so, o) (.head _) p hp
    · exact a1.2.1.2 p hp
    · exact a2 (ta, toldObj kind prec hei wid rl t1 t2 t3 t4 n1) (.tail _ (.head _)) p hp
    · exact a1.2.2.1 p hp
    · exact a2 (rl, listOf (refsOf rowsLed).toArray n2) (.tail _ (.tail _ (.head _))) p hp
  obtain ⟨e1, e2, e3⟩ : @Ne Nat so ta ∧ @Ne Nat so rl ∧ @Ne Nat ta rl := by
    obtain ⟨a1, a2⟩ := hap
    simp only [ToldLed, List.map_cons, List.nodup_cons, List.mem_cons, not_or, List.mem_map, not_exists, not_and] at a1
    exact ⟨a1.1.1, a1.1.2.1, a1.2.1.1⟩
  have hrne : ∀ p ∈ rest, p.1 ≠ so := fun p hp => ds p (hrst p hp)
  have hlen : rowsLed.length = rows.length := forall2_len hrows
  have hsz : (refsOf rowsLed).toArray.size = rows.length := by rw [refs_size]; exact hlen
  have hfit : ((refsOf rowsLed).toArray.size : Int) < 2 ^ 63 := by omega
  have hl1 : 1 ≤ rowsLed.length := by omega
  have hrx : ∀ p ∈ rest, ∀ q ∈ rowsLed, p.1 ≠ q.1 := fun p hp q hq => hap.2 q (.tail _ (.tail _ (.tail _ hq))) p hp
  have N1 := news_sub (news := (so, o) :: (ta, toldObj kind prec hei wid rl t1 t2 t3 t4 n1) :: (rl, listOf (refsOf rowsLed).toArray n2) :: tl) N (fun p hp => by
    rcases List.mem_cons.mp hp with rfl | hp
    · exact hs _ (.head _)
    · rcases List.mem_cons.mp hp with rfl | hp
      · exact hs _ (.tail _ (.head _))
      · rcases List.mem_cons.mp hp with rfl | hp
        · exact hs _ (.tail _ (.tail _ (.head _)))
        · exact hs _ (.tail _ (.tail _ (.tail _ (htl p hp)))))
  clear N hs
  have fin0 : ∀ {news' L0 : List (Addr × Obj)} {h' : Heap} {tk' : Nat} {o' : Obj} {kind : Str} {prec hei wid : Int} {rl' : Addr} {t1 t2 t3 t4 : Tok} {n1 n2 : Nat} {vs : List Value} {rows : List Row4}, Fr h₀ L h' m → News h₀ L h' news' → (∀ p ∈ L0, p.1 ≠ ta → p ∈ news') → (ta, toldObj kind prec hei wid rl' t1 t2 t3 t4 n1) ∈ news' → (so, o') ∈ L0 → (rl', listOf vs.toArray n2) ∈ L0 → (@Ne Nat rl' ta) → (@Ne Nat rl' so) →
      (∀ p ∈ tl, p ∈ L0) → All2 (RowIn tl) vs rows → SrcObj o' → KOk kind → rows.length ≤ 1000 → Q (.ref ta) { s with heap := h', toks := tk' } := by
    intro news' L0 h' tk' o' kind prec hei wid rl' t1 t2 t3 t4 n1 n2 vs rows F' N' hold hnew hso hrl d1 d2 htl' hr' ho' hk1 hk2
    obtain ⟨rest', g1, g2, g3, g4⟩ := told_end0 N' hold hnew hso hrl d1 d2 e1 htl' hr' dt ds hrst
    exact ret _ _ _ _ _ _ rest' _ _ F' g1 ho' g2 g3 g4 hk1 hk2
  have fin1 : ∀ {news' L0 : List (Addr × Obj)} {h' : Heap} {tk' : Nat} {o' : Obj} {x : Addr} {r : Row4} {s1 s2 s3 s4 s5 : Tok} {n3 : Nat} {k y : Int}, Fr h₀ L h' m → News h₀ L h' news' → (∀ p ∈ L0, p.1 ≠ x → p ∈ news') → (x, listOf (#[.int r.i s1, .int r.a s2, .int r.d s3, .int r.q s4].setIfInBounds k.toNat (.int y s5)) n3) ∈ news' → (∃ o'', (x, o'') ∈ rowsLed) → 0 ≤ k → k < 4 →
      (so, o') ∈ L0 → (ta, toldObj kind prec hei wid rl t1 t2 t3 t4 n1) ∈ L0 → (rl, listOf (refsOf rowsLed).toArray n2) ∈ L0 → (∀ p ∈ tl, p ∈ L0) → SrcObj o' → Q (.ref ta) { s with heap := h', toks := tk' } := by
    intro news' L0 h' tk' o' x r s1 s2 s3 s4 s5 n3 k y F' N' hold hnew ⟨o2, hx⟩ h0 h1 hso hta hrl htl' ho'
    obtain ⟨rest', rows', g1, g2, g3, g4, g5⟩ := told_end1 N' hold hnew hx h0 h1 hso hta hrl e1 e2 hw hrows htl' dt ds dr hrst (fun p hp => hrx p hp _ hx)
    exact ret _ _ _ _ rows' _ rest' _ _ F' g1 ho' g2 g3 g4 hkl (by omega)
  have hR := rows_refs hrows tl hw
  refine wpAny_call ?_
  k_dflt cell_enter
  k_steps
  · refine' fin0 ?a ?b ?c ?d ?e ?f ?g ?h ?i hR ?j ?k ?l
    case a => k_asm
    case b => k_asm
    case c => assumption
    case d => assumption
    case e => k_mem
    case f => k_mem
    case g => exact e3.symm
    case h => exact e2.symm
    case i => intro p hp; k_mem
    case j => assumption
    case k => assumption
    case l => omega
  · refine' fin0 ?a ?b ?c ?d ?e ?f ?g ?h ?i hR ?j hkl ?l
    case a => k_asm
    case b => k_asm
    case c => assumption
    case d => assumption
    case e => k_mem
    case f => k_mem
    case g => exact e3.symm
    case h => exact e2.symm
    case i => intro p hp; k_mem
    case j => assumption
    case l => omega
  · obtain ⟨p', hei', wid', u2, u3, u4, hn⟩ := told_sym (by assumption) (by omega) (by omega) (by omega)
    refine' fin0 ?a ?b ?c hn ?e ?f ?g ?h ?i hR ?j hkl ?l
    case a => k_asm
    case b => k_asm
    case c => assumption
    case e => k_mem
    case f => k_mem
    case g => exact e3.symm
    case h => exact e2.symm
    case i => intro p hp; k_mem
    case j => assumption
    case l => omega
  · refine' fin0 (vs := []) (rows := []) ?a ?b ?c ?d ?e ?f ?g ?h ?i .nil ?j hkl ?l
    case a => k_asm
    case b => k_asm
    case c => assumption
    case d => assumption
    case e => k_mem
    case f => k_mem
    case g => omega
    case h => omega
    case i => intro p hp; k_mem
    case j => assumption
    case l => exact Nat.zero_le _
  · obtain ⟨r5, u1, u2, u3, u4, n5, e5⟩ := row_obj hrows _ (by assumption)
    refine' fin0 (vs := List.replicate 256 _) (rows := List.replicate 256 r5) ?a ?b ?c ?d ?e ?f ?g ?h ?i ?r ?j hkl ?l
    case a => k_asm
    case b => k_asm
    case c => assumption
    case d => assumption
    case e => k_mem
    case f => k_mem
    case g => omega
    case h => omega
    case i => intro p hp; k_mem
    case r => exact rows_rep ⟨_, u1, u2, u3, u4, n5, rfl, by rw [← e5]; exact hw _ (by assumption)⟩ 256
    case j => assumption
    case l => rw [List.length_replicate]; decide
  · refine' fin1 ?a ?b ?c ?d ?x ?y ?z ?e ?f ?g ?i ?j
    case a => k_asm
    case b => k_asm
    case c => assumption
    case d => assumption
    case x => assumption
    case y => omega
    case z => omega
    case e => k_mem
    case f => k_mem
    case g => k_mem
    case i => intro p hp; k_mem
    case j => assumption
  · refine' fin0 (L0 := _) ?a ?b (fun p hp _ => hp) ?d ?e ?f ?g ?h ?i hR ?j hkl ?l
    case a => k_asm
    case b => k_asm
    case d => k_mem
    case e => k_mem
    case f => k_mem
    case g => exact e3.symm
    case h => exact e2.symm
    case i => intro p hp; k_mem
    case j => assumption
    case l => omega
end
end
section
open PySem PySem.Calls PySem.W PyProof.Rows
section
variable {prog : Program} {w : World} {p : Program} {loose : List Str} {mean : ExcName → Option Value} {mg mb : Str → Option Value}
    {dp un : Nat} {gd : Option (List Code)} {cn : Str} {cs : Scope} {a : Addr} {ccd : Value} {cl : List (Str × Addr)} {outer : List Env} {A₀ : Around} {base h₀ : Heap} {L : Addr} {m : Str → Option Value} {s : Shared} {Q E : Value → Shared → Prop}
theorem comp_spec {r : Row4} {t1 t2 t3 t4 : Tok} {news : List (Addr × Obj)}
    (B : Below A₀ base outer h₀) (F : Fr h₀ L s.heap m) (X : (Kc w.params).In h₀) (T : Top p loose mean mg mb h₀) (hk : cs.kind = .function)
    (N : News h₀ L s.heap news)
    (hdp : dp + 3 < recursionLimit) (hun : un + 40 < cLine)
    (ret : ∀ x dx h1 h2 h3 h4 k1 k2 k3 k4 n h' tk', Fr h₀ L h' m → News h₀ L h' ((x, instObj 90 dx) :: (dx, dictOf (compEs h1 h2 h3 h4 k1 k2 k3 k4 t1 t2 t3 t4 r) n) :: news) → (∀ p ∈ news, p.1 ≠ x) → (∀ p ∈ news, p.1 ≠ dx) → Q (.ref x) { s with heap := h', toks := tk' }) :
    wpAny (model prog w) (ktrTop dp un gd cn cs L a ccd cl outer) (call (.ref 90) [.int r.i t1, .int r.a t2, .int r.d t3, .int r.q t4]) Q E s := by
  have hfill : (fun (_ : OpenLaw) (_ : Params → Frag) => True) PySem.Challenge.rw_nz0245_01 Kc := by k_fill; trivial
  clear hfill
  k_dflt (refine' call_cls ?k1 ?k2 ?k3 ?k4 ?k5 ?k6 ?_; (case k1 => k_asm); (case k2 => k_asm); (case k3 => k_asm); (case k4 => k_is); (case k5 => k_is); (case k6 => k_is); k_whole; intro x d h' F' N' l1 l2)
  have hne : ∀ p ∈ news, p.1 ≠ x := fun p hp => Nat.ne_of_lt (Nat.lt_trans (l1 p hp) l2)
  have hne2 : ∀ p ∈ news, p.1 ≠ d := fun p hp => Nat.ne_of_lt (l1 p hp)
  replace l1 := allLt_of l1
  k_lt2 l2
  k_dflt cell_enter
  k_steps
  exact ret _ _ _ _ _ _ _ _ _ _ _ _ _ (by k_asm) (by k_asm) hne hne2
theorem frame_spec {kind : Str} {prec hei wid n : Int} {cr : Addr} {t1 t2 t3 t4 t6 : Tok} {news : List (Addr × Obj)}
    (B : Below A₀ base outer h₀) (F : Fr h₀ L s.heap m) (X : (Kc w.params).In h₀) (T : Top p loose mean mg mb h₀) (hk : cs.kind = .function)
    (N : News h₀ L s.heap news)
    (hdp : dp + 3 < recursionLimit) (hun : un + 40 < cLine)
    (ret : ∀ x dx h1 h2 h3 h4 h5 h6 k1 k2 k3 k4 k5 k6 n1 h' tk', Fr h₀ L h' m → News h₀ L h' ((x, instObj 156 dx) :: (dx, dictOf (frameEs h1 h2 h3 h4 h5 h6 k1 k2 k3 k4 k5 k6 t1 t2 t3 t4 t6 kind prec hei wid n cr) n1) :: news) → (∀ p ∈ news, p.1 ≠ x) → (∀ p ∈ news, p.1 ≠ dx) → Q (.ref x) { s with heap := h', toks := tk' }) :
    wpAny (model prog w) (ktrTop dp un gd cn cs L a ccd cl outer) (call (.ref 156) [.str kind t1, .int prec t2, .int hei t3, .int wid t4, .ref cr, .int n t6]) Q E s := by
  have hfill : (fun (_ : OpenLaw) (_ : Params → Frag) => True) PySem.Challenge.rw_nz0245_01 Kc := by k_fill; trivial
  clear hfill
  k_dflt (refine' call_cls ?k1 ?k2 ?k3 ?k4 ?k5 ?k6 ?_; (case k1 => k_asm); (case k2 => k_asm); (case k3 => k_asm); (case k4 => k_is); (case k5 => k_is); (case k6 => k_is); k_whole; intro x d h' F' N' l1 l2)
  have hne : ∀ p ∈ news, p.1 ≠ x := fun p hp => Nat.ne_of_lt (Nat.lt_trans (l1 p hp) l2)
  have hne2 : ∀ p ∈ news, p.1 ≠ d := fun p hp => Nat.ne_of_lt (l1 p hp)
  replace l1 := allLt_of l1
  k_lt2 l2
  k_dflt cell_enter
  k_steps
  exact ret _ _ _ _ _ _ _ _ _ _ _ _ _ _ _ _ _ (by k_asm) (by k_asm) hne hne2
end
end
section
open PySem PySem.Calls PySem.W PyProof.Rows
section
variable {prog : Program} {w : World} {A : Around} {E : Value → Shared → Prop} {s : Shared} {h₀ : Heap} {L : Addr} {m : Str → Option Value} {env : Env}
/-- a comprehension over a list, by what holds of what is made and of the ledger -/
theorem compL {elt : PySem.Expr} {x : Str} {scope : Scope} {cl : List (Str × Addr)} {S : List (Addr × Obj) → Prop} {Fin : List Value → List (Addr × Obj) → Prop} {vs : List Value} {news : List (Addr × Obj)} (J : Nat → List Value → List (Addr × Obj) → Prop) (h0 : J 0 [] news)
    (step : ∀ i ys news₁ v I oI C oC D m₂ h tk (E' : Value → Shared → Prop), vs[i]? = some v → J i ys news₁ → LCg.NsObj oC m₂ → m₂ x = some v → Fr h₀ L h m → News h₀ L h ((I, oI) :: (C, oC) :: (D, LCg.lst ys) :: news₁) → (∀ p ∈ news₁, p.1 ≠ I ∧ p.1 ≠ C ∧ p.1 ≠ D) → ((@Ne Nat I C) ∧ (@Ne Nat I D) ∧ (@Ne Nat C D)) →
      wpAny (model prog w) A (eval elt (compEnvC scope cl C env)) (LCg.CompEnd h₀ L m { s with heap := h, toks := tk } I oI C oC D (LCg.lst ys) S (fun y news' => J (i + 1) (ys ++ [y]) news')) E' { s with heap := h, toks := tk })
    (fin : ∀ ys news', J vs.length ys news' → Fin ys news') :
    LCg.CompRest prog w A h₀ L m env elt x scope cl s S (fun i v => vs.toArray[i]? = some v) Fin vs.toArray.size 0 [] news := by
  have key : ∀ (k i : Nat) (ys : List Value) (news₁ : List (Addr × Obj)), i + k = vs.length → J i ys news₁ → LCg.CompRest prog w A h₀ L m env elt x scope cl s S (fun i v => vs.toArray[i]? = some v) Fin k i ys news₁ := by
    intro k
    induction k with
    | zero =>
      intro i ys news₁ e hJ
      have e' : i = vs.length := by omega
      exact LCg.CompRest.zero (fin ys news₁ (e' ▸ hJ))
    | succ k ih =>
      intro i ys news₁ e hJ
      refine LCg.CompRest.succ fun v I oI C oC D m₂ h tk E' hv hC hx F N off ne => ?_
      refine wpAny_mono (step i ys news₁ v I oI C oC D m₂ h tk E' (by simpa using hv) hJ hC hx F N off.mem ne) (fun y s₂ p => ?_) fun _ _ e => e
      obtain ⟨h', tk', news', e1, F', N', off', hS, hr⟩ := p
      exact ⟨h', tk', news', e1, F', N', off', hS, ih (i + 1) (ys ++ [y]) news' (by omega) hr⟩
  have hz : vs.toArray.size = vs.length := by simp
  rw [hz]
  exact key vs.length 0 [] news (by omega) h0
end
end
section
open PySem PySem.Calls PySem.W PyProof.Rows
/-- an element of a comprehension, closed by what stands in the ledger -/
theorem comp_end {h₀ h' : Heap} {L I C D : Addr} {m : Str → Option Value} {s₁ : Shared} {oI oC oD : Obj} {S : List (Addr × Obj) → Prop} {rest : Value → List (Addr × Obj) → Prop} {y : Value} {tk : Nat} {all news' : List (Addr × Obj)}
    (F : Fr h₀ L h' m) (N : News h₀ L h' all) (sub : ∀ p ∈ (I, oI) :: (C, oC) :: (D, oD) :: news', p ∈ all) (off : LCg.Off3 I C D news') (hS : S news') (r : rest y news') :
    LCg.CompEnd h₀ L m s₁ I oI C oC D oD S rest y { s₁ with heap := h', toks := tk } := LCg.CompEnd.intro F N news' sub off hS r
theorem off3_of {I C D : Addr} {l : List (Addr × Obj)} (h : ∀ p ∈ l, p.1 ≠ I ∧ p.1 ≠ C ∧ p.1 ≠ D) : LCg.Off3 I C D l := LCg.Off3.of h
theorem CompIn.mono {news news' : List (Addr × Obj)} {v : Value} {r : Row4} (h : CompIn news v r) (hs : ∀ p ∈ news, p ∈ news') : CompIn news' v r :=
  let ⟨x, dx, h1, h2, h3, h4, k1, k2, k3, k4, t1, t2, t3, t4, n, e, a, b⟩ := h
  ⟨x, dx, h1, h2, h3, h4, k1, k2, k3, k4, t1, t2, t3, t4, n, e, hs _ a, hs _ b⟩
def BuiltJ (rows : List Row4) (news : List (Addr × Obj)) (i : Nat) (ys : List Value) (news₁ : List (Addr × Obj)) : Prop :=
  ∃ led, news₁ = led ++ news ∧ (∀ q ∈ led, ∀ p ∈ news, p.1 ≠ q.1) ∧ All2 (CompIn led) ys (rows.take i)
theorem built_turn {h₀ h' : Heap} {L I C D x dx : Addr} {m : Str → Option Value} {s₁ : Shared} {oI oC oD : Obj} {S : List (Addr × Obj) → Prop} {rows : List Row4} {news led : List (Addr × Obj)} {i tk n : Nat} {ys : List Value} {r : Row4} {h1 h2 h3 h4 : Int} {k1 k2 k3 k4 t1 t2 t3 t4 : Tok}
    (F : Fr h₀ L h' m) (N : News h₀ L h' ((x, instObj 90 dx) :: (dx, dictOf (compEs h1 h2 h3 h4 k1 k2 k3 k4 t1 t2 t3 t4 r) n) :: (I, oI) :: (C, oC) :: (D, oD) :: (led ++ news)))
    (l1 : ∀ p ∈ (I, oI) :: (C, oC) :: (D, oD) :: (led ++ news), p.1 ≠ x) (l2 : ∀ p ∈ (I, oI) :: (C, oC) :: (D, oD) :: (led ++ news), p.1 ≠ dx) (off : ∀ p ∈ led ++ news, p.1 ≠ I ∧ p.1 ≠ C ∧ p.1 ≠ D)
    (hap : ∀ q ∈ led, ∀ p ∈ news, p.1 ≠ q.1) (hys : All2 (CompIn led) ys (rows.take i)) (hr : rows[i]? = some r) (hS : ∀ l, (∀ p ∈ news, p ∈ l) → S l) :
    LCg.CompEnd h₀ L m s₁ I oI C oC D oD S (fun y news' => BuiltJ rows news (i + 1) (ys ++ [y]) news') (.ref x) { s₁ with heap := h', toks := tk } := by
  refine comp_end (news' := ((x, instObj 90 dx) :: (dx, dictOf (compEs h1 h2 h3 h4 k1 k2 k3 k4 t1 t2 t3 t4 r) n) :: led) ++ news) F N ?_ (off3_of ?_) (hS _ fun p hp => List.mem_append_right _ hp) ⟨_, rfl, ?_, ?_⟩
  · intro p hp
    simp only [List.cons_append, List.mem_cons] at hp ⊢
    rcases hp with h | h | h | h | h | h <;> simp [h]
  · intro p hp
    rcases List.mem_cons.mp hp with rfl | hp
    · exact ⟨(l1 _ (.head _)).symm, (l1 _ (.tail _ (.head _))).symm, (l1 _ (.tail _ (.tail _ (.head _)))).symm⟩
    · rcases List.mem_cons.mp hp with rfl | hp
      · exact ⟨(l2 _ (.head _)).symm, (l2 _ (.tail _ (.head _))).symm, (l2 _ (.tail _ (.tail _ (.head _)))).symm⟩
      · exact off p hp
  · intro q hq p hp
    rcases List.mem_cons.mp hq with rfl | hq
    · exact l1 p (.tail _ (.tail _ (.tail _ (List.mem_append_right _ hp))))
    · rcases List.mem_cons.mp hq with rfl | hq
      · exact l2 p (.tail _ (.tail _ (.tail _ (List.mem_append_right _ hp))))
      · exact hap q hq p hp
  · rw [List.take_add_one, hr]
    refine (hys.imp fun a b h => h.mono fun p hp => .tail _ (.tail _ hp)).snoc ⟨x, dx, h1, h2, h3, h4, k1, k2, k3, k4, t1, t2, t3, t4, n, rfl, .head _, .tail _ (.head _)⟩
/-- a frame, in the ledger -/
def FrameIn (news : List (Addr × Obj)) (fx : Addr) (kind : Str) (prec hei wid : Int) (rows : List Row4) : Prop :=
  ∃ fdx cl' h1 h2 h3 h4 h5 h6 k1 k2 k3 k4 k5 k6 t1 t2 t3 t4 t6 n n1 n2 comps, (fx, instObj 156 fdx) ∈ news ∧ (fdx, dictOf (frameEs h1 h2 h3 h4 h5 h6 k1 k2 k3 k4 k5 k6 t1 t2 t3 t4 t6 kind prec hei wid n cl') n1) ∈ news ∧ (cl', listOf comps n2) ∈ news ∧ All2 (CompIn news) comps.toList rows
section
variable {prog : Program} {w : World} {p : Program} {loose : List Str} {mean : ExcName → Option Value} {mg mb : Str → Option Value}
    {dp un : Nat} {gd : Option (List Code)} {cn : Str} {cs : Scope} {a : Addr} {ccd : Value} {cl : List (Str × Addr)} {outer : List Env} {A₀ : Around} {base h₀ : Heap} {L : Addr} {m : Str → Option Value} {s : Shared} {Q E : Value → Shared → Prop}
local macro_rules | `(tactic| k_all) => `(tactic| with_reducible assumption)
local macro_rules | `(tactic| k_mem) => `(tactic| first | with_reducible assumption | exact List.mem_cons_self | (refine' List.mem_cons_of_mem _ ?_; k_mem))
local macro_rules | `(tactic| walk_at "subscriptTail") => `(tactic| (k_here; (with_reducible show wpAny _ _ (subscriptTail _ _ (Value.ref _) (Value.int _ _)) _ _ _); k_dflt (refine' item_at (News.isList ?N ?q) ?h1 ?h2 ?h3 ?_ ?h4; (case N => k_asm); (case q => k_mem); (case h1 => decide); (case h2 => decide); (case h3 => exact rfl); (case h4 => first | exact subsc_const | exact subsc_binop | exact subsc_call | exact subsc_name); k_whole)))
local macro_rules | `(tactic| walk_at "call ref") => `(tactic| (k_here; k_dflt (refine' comp_spec (r := ⟨_, _, _, _⟩) ?k1 ?k2 ?k3 ?k4 ?k5 ?k6 ?k12 ?k13 ?_; (case k1 => k_asm); (case k2 => k_asm); (case k3 => k_asm); (case k4 => k_asm); (case k5 => first | exact rfl | assumption); (case k6 => k_asm); (case k12 => ktr_room); (case k13 => ktr_units)); intro x' dx' h1' h2' h3' h4' k1' k2' k3' k4' n' h' tk' F' N' l1 l2; (try dsimp only); (try k_fold)))
local macro_rules | `(tactic| walk_at "call ref") => `(tactic| (k_here; k_dflt (refine' frame_spec ?k1 ?k2 ?k3 ?k4 ?k5 ?k6 ?k12 ?k13 ?_; (case k1 => k_asm); (case k2 => k_asm); (case k3 => k_asm); (case k4 => k_asm); (case k5 => first | exact rfl | assumption); (case k6 => k_asm); (case k12 => ktr_room); (case k13 => ktr_units)); intro x' dx' h1' h2' h3' h4' h5' h6' k1' k2' k3' k4' k5' k6' n' h' tk' F' N' l1 l2; (try dsimp only); (try k_fold)))

local macro_rules | `(tactic| walk_at "eval ListComp") => `(tactic| (k_here; k_dflt (refine LCg.ListComp_U (F₀ := by k_asm) (by rfl) (by decide) (by rfl) (by decide) (by rfl) ?_)))
theorem built_spec {ta : Addr} {kind : Str} {prec hei wid : Int} {rows : List Row4} {news : List (Addr × Obj)}
    (B : Below A₀ base outer h₀) (F : Fr h₀ L s.heap m) (X : (Kc w.params).In h₀) (T : Top p loose mean mg mb h₀) (hk : cs.kind = .function)
    (N : News h₀ L s.heap news) (hT : ToldAt news ta kind prec hei wid rows) (hlen : rows.length ≤ 1000)
    (hdp : dp + 6 < recursionLimit) (hun : un + 80 < cLine)
    (ret : ∀ fx led h' tk', Fr h₀ L h' m → News h₀ L h' (led ++ news) → FrameIn (led ++ news) fx kind prec hei wid rows → (∀ q ∈ led, ∀ p ∈ news, p.1 ≠ q.1) → Q (.ref fx) { s with heap := h', toks := tk' }) :
    wpAny (model prog w) (ktrTop dp un gd cn cs L a ccd cl outer) (call (.ref 247) [.ref ta]) Q E s := by
  have hfill : (fun (_ : OpenLaw) (_ : Params → Frag) => True) PySem.Challenge.rw_nz0245_01 Kc := by k_fill; trivial
  clear hfill
  obtain ⟨rl, t1, t2, t3, t4, n1, vs, n2, hm1, hm2, hrows⟩ := hT
  have hvl : vs.length = rows.length := forall2_len hrows
  refine wpAny_call ?_
  k_dflt cell_enter
  k_steps
  rename_i g' L' h' FG F1 N1 B1 X1 T1
  refine LCg.CompSrc.ledger (by rfl) F1 N1 hm2 (by rw [List.size_toArray, sizeLine_eq]; omega) fun g9 => compL (BuiltJ rows news) ⟨[], rfl, fun _ h => (nomatch h), .nil⟩ ?_ ?_
  · rintro i ys news₁ v I oI C oC D m₂ h tk E' hv ⟨led, rfl, hap, hys⟩ hC hx F2 N2 off ne
    obtain ⟨r, hr, x, t1, t2, t3, t4, n, rfl, hmx⟩ := forall2_get hrows hv
    have hmx' : (x, listOf #[.int r.i t1, .int r.a t2, .int r.d t3, .int r.q t4] n) ∈ led ++ news := List.mem_append_right _ hmx
    k_steps
    exact built_turn (by assumption) (by assumption) (by assumption) (by assumption) off hap hys hr (fun l hl => .inr ⟨_, hl _ hm2, rfl, _, rfl⟩)
  · rintro ys news' ⟨led, rfl, hap, hys⟩
    unfold LCg.FinE
    intro D h tk F2 N2 o1
    k_steps
    rw [hvl, List.take_length] at hys
    refine ret _ ((_, _) :: (_, _) :: (D, LCg.lst ys) :: led) _ _ (by k_asm) (by k_asm) ⟨_, _, _, _, _, _, _, _, _, _, _, _, _, _, _, _, _, _, _, _, _, _, ys.toArray, .head _, .tail _ (.head _), .tail _ (.tail _ (.head _)), hys.imp fun a b h => h.mono fun p hp => .tail _ (.tail _ (.tail _ (List.mem_append_left _ hp)))⟩ ?_
    intro q hq p hp
    have hD : ∀ {l : List (Addr × Obj)}, LCg.Off1 D l → ∀ p ∈ l, p.1 ≠ D := by
      intro l
      induction l with
      | nil => intro _ p hp; exact absurd hp (List.not_mem_nil)
      | cons a r ih =>
        intro h p hp
        rcases List.mem_cons.mp hp with rfl | hp
        · exact h.1
        · exact ih h.2 p hp
    rcases List.mem_cons.mp hq with rfl | hq
    · exact (by assumption : ∀ p ∈ (D, LCg.lst ys) :: (led ++ news), p.1 ≠ _) p (.tail _ (List.mem_append_right _ hp))
    · rcases List.mem_cons.mp hq with rfl | hq
      · exact (by assumption : ∀ p ∈ (D, LCg.lst ys) :: (led ++ news), p.1 ≠ _) p (.tail _ (List.mem_append_right _ hp))
      · rcases List.mem_cons.mp hq with rfl | hq
        · exact hD o1 p (List.mem_append_right _ hp)
        · exact hap q hq p hp
end
end
section
open PySem PySem.Calls PySem.W PyProof.Rows
def RowJ (rows : List Row4) (news : List (Addr × Obj)) (i : Nat) (ys : List Value) (news₁ : List (Addr × Obj)) : Prop :=
  ∃ led, news₁ = led ++ news ∧ (∀ q ∈ led, ∀ p ∈ news, p.1 ≠ q.1) ∧ All2 (RowIn led) ys (rows.take i)
theorem off1_ne {D : Addr} {l : List (Addr × Obj)} : LCg.Off1 D l → ∀ p ∈ l, p.1 ≠ D := by
  induction l with
  | nil => intro _ p hp; exact absurd hp (List.not_mem_nil)
  | cons a r ih =>
    intro h p hp
    rcases List.mem_cons.mp hp with rfl | hp
    · exact h.1
    · exact ih h.2 p hp
theorem row_turn {h₀ h' : Heap} {L I C D x : Addr} {m : Str → Option Value} {s₁ : Shared} {oI oC oD : Obj} {S : List (Addr × Obj) → Prop} {rows : List Row4} {news led : List (Addr × Obj)} {i tk n : Nat} {ys : List Value} {r : Row4} {t1 t2 t3 t4 : Tok}
    (F : Fr h₀ L h' m) (N : News h₀ L h' ((x, listOf #[.int r.i t1, .int r.a t2, .int r.d t3, .int r.q t4] n) :: (I, oI) :: (C, oC) :: (D, oD) :: (led ++ news)))
    (l1 : @LT.lt Nat _ I x ∧ @LT.lt Nat _ C x ∧ @LT.lt Nat _ D x ∧ AllLt x (led ++ news)) (off : ∀ p ∈ led ++ news, p.1 ≠ I ∧ p.1 ≠ C ∧ p.1 ≠ D)
    (hap : ∀ q ∈ led, ∀ p ∈ news, p.1 ≠ q.1) (hys : All2 (RowIn led) ys (rows.take i)) (hr : rows[i]? = some r) (hS : ∀ l, (∀ p ∈ news, p ∈ l) → S l) :
    LCg.CompEnd h₀ L m s₁ I oI C oC D oD S (fun y news' => RowJ rows news (i + 1) (ys ++ [y]) news') (.ref x) { s₁ with heap := h', toks := tk } := by
  obtain ⟨l1, l2, l3, l4⟩ := l1
  refine comp_end (news' := ((x, listOf #[.int r.i t1, .int r.a t2, .int r.d t3, .int r.q t4] n) :: led) ++ news) F N ?_ (off3_of ?_) (hS _ fun p hp => List.mem_append_right _ hp) ⟨_, rfl, ?_, ?_⟩
  · intro p hp
    simp only [List.cons_append, List.mem_cons] at hp ⊢
    rcases hp with h | h | h | h | h <;> simp [h]
  · intro p hp
    rcases List.mem_cons.mp hp with rfl | hp
    · exact ⟨(Nat.ne_of_lt l1).symm, (Nat.ne_of_lt l2).symm, (Nat.ne_of_lt l3).symm⟩
    · exact off p hp
  · intro q hq p hp
    rcases List.mem_cons.mp hq with rfl | hq
    · exact allLt_ne l4 p (List.mem_append_right _ hp)
    · exact hap q hq p hp
  · rw [List.take_add_one, hr]
    exact (hys.imp fun a b h => h.mono fun p hp => .tail _ hp).snoc ⟨x, t1, t2, t3, t4, n, rfl, .head _⟩
section
variable {prog : Program} {w : World} {p : Program} {loose : List Str} {mean : ExcName → Option Value} {mg mb : Str → Option Value}
    {dp un : Nat} {gd : Option (List Code)} {cn : Str} {cs : Scope} {a : Addr} {ccd : Value} {cl : List (Str × Addr)} {outer : List Env} {A₀ : Around} {base h₀ : Heap} {L : Addr} {m : Str → Option Value} {s : Shared} {Q E : Value → Shared → Prop}
local macro_rules | `(tactic| k_all) => `(tactic| with_reducible assumption)
local macro_rules | `(tactic| k_mem) => `(tactic| first | with_reducible assumption | exact List.mem_cons_self | (refine' List.mem_cons_of_mem _ ?_; k_mem))
local macro_rules | `(tactic| walk_at "exec Assign cons ListComp") => `(tactic| (k_here; k_dflt (refine LCg.Assign_ListComp_U (F₀ := by k_asm) (by rfl) (by with_unfolding_all rfl) (by rfl) (by decide) (by rfl) (by decide) (by rfl) (by rfl) (by rfl) ?_)))
theorem row_spec {fx : Addr} {kind : Str} {prec hei wid : Int} {rows : List Row4} {news : List (Addr × Obj)}
    (B : Below A₀ base outer h₀) (F : Fr h₀ L s.heap m) (X : (Kc w.params).In h₀) (T : Top p loose mean mg mb h₀) (hk : cs.kind = .function)
    (N : News h₀ L s.heap news) (hT : FrameIn news fx kind prec hei wid rows) (hlen : rows.length ≤ 1000)
    (hdp : dp + 6 < recursionLimit) (hun : un + 80 < cLine)
    (ret : ∀ ra led h' tk', Fr h₀ L h' m → News h₀ L h' (led ++ news) → ToldAt (led ++ news) ra kind prec hei wid rows → (∀ q ∈ led, ∀ p ∈ news, p.1 ≠ q.1) → Q (.ref ra) { s with heap := h', toks := tk' }) :
    wpAny (model prog w) (ktrTop dp un gd cn cs L a ccd cl outer) (call (.ref 252) [.ref fx]) Q E s := by
  have hfill : (fun (_ : OpenLaw) (_ : Params → Frag) => True) PySem.Challenge.rw_nz0245_01 Kc := by k_fill; trivial
  clear hfill
  obtain ⟨fdx, cl', h1, h2, h3, h4, h5, h6, k1, k2, k3, k4, k5, k6, t1, t2, t3, t4, t6, n, n1, n2, comps, hm1, hm2, hm3, hcs⟩ := hT
  obtain ⟨vs, rfl⟩ : ∃ vs, comps = List.toArray vs := ⟨comps.toList, by simp⟩
  have hvl : vs.length = rows.length := forall2_len hcs
  refine wpAny_call ?_
  k_dflt cell_enter
  k_steps
  rename_i g' L' h' FG F1 N1 B1 X1 T1
  refine LCg.CompSrc.ledger (by rfl) F1 N1 hm3 (by rw [List.size_toArray, sizeLine_eq]; omega) fun g9 => compL (RowJ rows news) ⟨[], rfl, fun _ h => (nomatch h), .nil⟩ ?_ ?_
  · rintro i ys news₁ v I oI C oC D m₂ h tk E' hv ⟨led, rfl, hap, hys⟩ hC hx F2 N2 off ne
    obtain ⟨r, hr, x, dx, e1, e2, e3, e4, e5, e6, e7, e8, e9, e10, e11, e12, e13, rfl, hcx, hcd⟩ := forall2_get hcs hv
    have hcx' : (x, instObj 90 dx) ∈ led ++ news := List.mem_append_right _ hcx
    have hcd' := List.mem_append_right led hcd
    k_steps
    exact row_turn (by assumption) (by assumption) (by assumption) off hap hys hr (fun l hl => .inr ⟨_, hl _ hm3, rfl, _, rfl⟩)
  · rintro ys news' ⟨led, rfl, hap, hys⟩
    unfold LCg.FinA
    intro D h tk F2 N2 o1
    k_steps
    rename_i l' h' F' N' l1' kF kN Tc kX
    rw [hvl, List.take_length] at hys
    refine ret _ ((_, _) :: (D, LCg.lst ys) :: led) _ _ (by k_asm) (by k_asm) ⟨D, _, _, _, _, _, ys, _, .head _, .tail _ (.head _), hys.imp fun a b h => h.mono fun p hp => .tail _ (.tail _ (List.mem_append_left _ hp))⟩ ?_
    intro q hq p hp
    rcases List.mem_cons.mp hq with rfl | hq
    · exact allLt_ne (And.right l1') p (List.mem_append_right _ hp)
    · rcases List.mem_cons.mp hq with rfl | hq
      · exact off1_ne o1 p (List.mem_append_right _ hp)
      · exact hap q hq p hp
end
end
section
open PySem PySem.Calls PySem.W PyProof.Rows
theorem ints_dat {news : List (Addr × Obj)} {vs : List Value} {ns : List Int} (h : IntsAre vs ns) : DatAll news vs (ns.map Dat.int) := by
  induction h with
  | nil => exact .nil
  | cons x t _ ih => exact .cons (.int _ _) ih
theorem ints_ok {ns : List Int} : ∀ d ∈ ns.map Dat.int, kqdOk 8 d = true := by
  intro d hd
  obtain ⟨x, _, rfl⟩ := List.mem_map.mp hd
  rfl
theorem int_mem {ns : List Int} {k : Int} : Dat.int k ∈ ns.map Dat.int ↔ k ∈ ns := by
  constructor
  · intro h
    obtain ⟨x, hx, e⟩ := List.mem_map.mp h
    cases e; exact hx
  · intro h; exact List.mem_map_of_mem h
/-- the data of a row of the table -/
def krDat (r : KRow) : Dat := .list [.str r.name, .int r.code, .list (r.ps.map Dat.int)]
theorem tab_dat {news : List (Addr × Obj)} {v : Value} {r : KRow} (h : TabRow news v r) : DatIn news v (krDat r) := by
  obtain ⟨x, px, t1, t2, vs, n1, n2, rfl, h1, h2, h3⟩ := h
  exact .list (vs := [_, _, _]) h1 (.cons (.str _ _) (.cons (.int _ _) (.cons (.list h2 (ints_dat h3)) .nil)))
theorem kr_ok : ∀ r ∈ kRows, kqdOk 8 (krDat r) = true := by decide +kernel
/-- the data of a row of told -/
def rowDat (r : Row4) : Dat := .list [.int r.i, .int r.a, .int r.d, .int r.q]
theorem row_dat {news : List (Addr × Obj)} {v : Value} {r : Row4} (h : RowIn news v r) : DatIn news v (rowDat r) := by
  obtain ⟨x, t1, t2, t3, t4, n, rfl, h1⟩ := h
  exact .list (vs := [_, _, _, _]) h1 (.cons (.int _ _) (.cons (.int _ _) (.cons (.int _ _) (.cons (.int _ _) .nil))))
theorem rows_dat {news : List (Addr × Obj)} {vs : List Value} {rows : List Row4} (h : All2 (RowIn news) vs rows) : DatAll news vs (rows.map rowDat) := by
  induction h with
  | nil => exact .nil
  | cons a _ ih => exact .cons (row_dat a) ih
theorem rows_ok {n : Nat} {rows : List Row4} : ∀ d ∈ rows.map rowDat, kqdOk (n + 1) d = true := by
  intro d hd
  obtain ⟨x, _, rfl⟩ := List.mem_map.mp hd
  unfold rowDat
  unfold kqdOk
  simp only [List.all_cons, List.all_nil, Bool.and_true, Bool.and_eq_true]
  exact ⟨by unfold kqdOk; rfl, by unfold kqdOk; rfl, by unfold kqdOk; rfl, by unfold kqdOk; rfl⟩
/-- the data of told -/
def toldDats (kind : Str) (prec hei wid : Int) (rows : List Row4) : List Dat := [.str kind, .int prec, .int hei, .int wid, .list (rows.map rowDat)]
theorem told_ok {kind : Str} {prec hei wid : Int} {rows : List Row4} (h : KOk kind) : ∀ d ∈ toldDats kind prec hei wid rows, kqdOk 8 d = true := by
  intro d hd
  simp only [toldDats, List.mem_cons, List.not_mem_nil, or_false] at hd
  rcases hd with rfl | rfl | rfl | rfl | rfl
  · unfold kqdOk; exact h.2
  · unfold kqdOk; rfl
  · unfold kqdOk; rfl
  · unfold kqdOk; rfl
  · unfold kqdOk; exact List.all_eq_true.mpr rows_ok
section
variable {prog : Program} {w : World} {A : Around} {E : Value → Shared → Prop} {s : Shared} {h₀ : Heap} {L : Addr} {m : Str → Option Value} {news : List (Addr × Obj)} {Q : Value → Shared → Prop}
open Classical in
/-- a list of one row of the table is not the empty list -/
theorem eq_row_nil {D l : Addr} {v : Value} {r : KRow} {k n : Nat} {led : List (Addr × Obj)} (N : News h₀ L s.heap news) (mD : (D, listOf [v].toArray k) ∈ news) (hv : TabRow led v r) (hs : ∀ p ∈ led, p ∈ news) (hr : r ∈ kRows) (ml : (l, listOf #[] n) ∈ news) (hu : A.units + 64 < cLine)
    (h : Q (.bool false) s) : wpAny (model prog w) A (compareOp .Eq (.ref D) (.ref l)) Q E s := by
  refine kqd_eq (xs := [v]) (ys := []) (ds := [krDat r]) (es := []) N mD rfl rfl (.cons (tab_dat hv) .nil) hs ml rfl rfl .nil (n₂ := []) (fun _ h => (nomatch h)) ?_ (fun _ h => (nomatch h)) hu ?_
  · intro d hd; rw [List.mem_singleton.mp hd]; exact kr_ok r hr
  · rw [decide_eq_false (by simp)]; exact h
theorem eq_row_nil2 {D l x px : Addr} {r : KRow} {n q1 q2 : Nat} {u1 u2 : Tok} {pvs : List Value} (N : News h₀ L s.heap news) (mD : (D, LCg.lst [.ref x]) ∈ news) (mx : (x, listOf #[.str r.name u1, .int r.code u2, .ref px] q1) ∈ news) (mp : (px, listOf pvs.toArray q2) ∈ news) (hi : IntsAre pvs r.ps) (hr : r ∈ kRows) (ml : (l, listOf #[] n) ∈ news) (hu : A.units + 64 < cLine)
    (h : Q (.bool false) s) : wpAny (model prog w) A (compareOp .Eq (.ref D) (.ref l)) Q E s := eq_row_nil (led := news) N mD ⟨x, px, u1, u2, pvs, q1, q2, rfl, mx, mp, hi⟩ (fun _ h => h) hr ml hu h
open Classical in
/-- not in a list of ints -/
theorem notIn_ints {px : Addr} {pvs : List Value} {ps : List Int} {k : Int} {t : Tok} {n : Nat} (N : News h₀ L s.heap news) (mp : (px, listOf pvs.toArray n) ∈ news) (hi : IntsAre pvs ps) (hu : A.units + 64 < cLine)
    (h1 : k ∈ ps → Q (.bool false) s) (h2 : k ∉ ps → Q (.bool true) s) : wpAny (model prog w) A (compareOp .NotIn (.int k t) (.ref px)) Q E s := by
  refine kqd_notIn (d := .int k) N mp rfl rfl (ints_dat (news := []) hi) (fun _ h => (nomatch h)) (.int (news := []) k t) (fun _ h => (nomatch h)) ints_ok rfl hu ?_
  by_cases hk : k ∈ ps
  · rw [decide_eq_true (int_mem.mpr hk)]; exact h1 hk
  · rw [decide_eq_false (fun e => hk (int_mem.mp e))]; exact h2 hk
open Classical in
/-- in a list of ints -/
theorem isIn_ints {px : Addr} {pvs : List Value} {ps : List Int} {k : Int} {t : Tok} {n : Nat} (N : News h₀ L s.heap news) (mp : (px, listOf pvs.toArray n) ∈ news) (hi : IntsAre pvs ps) (hu : A.units + 64 < cLine)
    (h1 : k ∈ ps → Q (.bool true) s) (h2 : k ∉ ps → Q (.bool false) s) : wpAny (model prog w) A (compareOp .In (.int k t) (.ref px)) Q E s := by
  refine kqd_isIn (d := .int k) N mp rfl rfl (ints_dat (news := []) hi) (fun _ h => (nomatch h)) (.int (news := []) k t) (fun _ h => (nomatch h)) ints_ok rfl hu ?_
  by_cases hk : k ∈ ps
  · rw [decide_eq_true (int_mem.mpr hk)]; exact h1 hk
  · rw [decide_eq_false (fun e => hk (int_mem.mp e))]; exact h2 hk
open Classical in
/-- two lists of ints, ne -/
theorem ne_ints {a b : Addr} {pvs qvs : List Value} {ps qs : List Int} {n k : Nat} (N : News h₀ L s.heap news) (ma : (a, listOf pvs.toArray n) ∈ news) (hi : IntsAre pvs ps) (mb : (b, listOf qvs.toArray k) ∈ news) (hj : IntsAre qvs qs) (hu : A.units + 64 < cLine)
    (h1 : ps = qs → Q (.bool false) s) (h2 : ps ≠ qs → Q (.bool true) s) : wpAny (model prog w) A (compareOp .NotEq (.ref a) (.ref b)) Q E s := by
  refine kqd_ne N ma rfl rfl (ints_dat (news := []) hi) (fun _ h => (nomatch h)) mb rfl rfl (ints_dat (news := []) hj) (fun _ h => (nomatch h)) ints_ok ints_ok hu ?_
  by_cases hk : ps = qs
  · rw [decide_eq_true (by rw [hk])]; exact h1 hk
  · rw [decide_eq_false (fun e => hk ?_)]
    · exact h2 hk
    · have inj : ∀ (l l' : List Int), l.map Dat.int = l'.map Dat.int → l = l' := by
        intro l
        induction l with
        | nil => intro l' e; cases l' with
          | nil => rfl
          | cons _ _ => simp at e
        | cons x l ih => intro l' e; cases l' with
          | nil => simp at e
          | cons y l' => simp only [List.map_cons, List.cons.injEq, Dat.int.injEq] at e; rw [e.1, ih l' e.2]
      exact inj _ _ e
open Classical in
/-- told, read twice -/
theorem told_same {a b : Addr} {kind : Str} {prec hei wid : Int} {rows : List Row4} (N : News h₀ L s.heap news) (ha : ToldAt news a kind prec hei wid rows) (hb : ToldAt news b kind prec hei wid rows) (hk : KOk kind) (hu : A.units + 64 < cLine)
    (h : Q (.bool false) s) : wpAny (model prog w) A (compareOp .NotEq (.ref a) (.ref b)) Q E s := by
  obtain ⟨rl, t1, t2, t3, t4, n1, vs, n2, a1, a2, a3⟩ := ha
  obtain ⟨rl', t1', t2', t3', t4', n1', vs', n2', b1, b2, b3⟩ := hb
  refine kqd_ne (xs := [_, _, _, _, _]) (ys := [_, _, _, _, _]) (ds := toldDats kind prec hei wid rows) (es := toldDats kind prec hei wid rows) N a1 rfl rfl (.cons (.str _ _) (.cons (.int _ _) (.cons (.int _ _) (.cons (.int _ _) (.cons (.list a2 (rows_dat a3)) .nil))))) (fun _ h => h)
    b1 rfl rfl (.cons (.str _ _) (.cons (.int _ _) (.cons (.int _ _) (.cons (.int _ _) (.cons (.list b2 (rows_dat b3)) .nil))))) (fun _ h => h) (told_ok hk) (told_ok hk) hu ?_
  rw [decide_eq_true rfl]; exact h
/-- a list of ints that is or is not empty, ne the empty list -/
theorem ne_nil_ints {a b : Addr} {pvs : List Value} {ps : List Int} {n k : Nat} (N : News h₀ L s.heap news) (ma : (a, listOf pvs.toArray n) ∈ news) (hi : IntsAre pvs ps) (mb : (b, listOf #[] k) ∈ news) (hu : A.units + 64 < cLine)
    (h1 : ps = [] → Q (.bool false) s) (h2 : ps ≠ [] → Q (.bool true) s) : wpAny (model prog w) A (compareOp .NotEq (.ref a) (.ref b)) Q E s :=
  ne_ints (qvs := []) (qs := []) N ma hi mb .nil hu h1 h2
end
end
section
open PySem PySem.Calls PySem.W PyProof.Rows
section
variable {prog : Program} {w : World} {A : Around} {E : Value → Shared → Prop} {s : Shared} {h₀ : Heap} {L : Addr} {m : Str → Option Value} {env : Env}
/-- a comprehension with one test, by what holds of what is made and of the ledger -/
theorem compT {ct elt : PySem.Expr} {x : Str} {scope : Scope} {cl : List (Str × Addr)} {S : List (Addr × Obj) → Prop} {P : Nat → Value → Prop} {Fin : List Value → List (Addr × Obj) → Prop} {n : Nat} {news : List (Addr × Obj)} (J : Nat → List Value → List (Addr × Obj) → Prop) (h0 : J 0 [] news)
    (step : ∀ i ys news₁ v I oI C oC D m₂ h tk (E' : Value → Shared → Prop), i < n → P i v → J i ys news₁ → LCg.NsObj oC m₂ → m₂ x = some v → Fr h₀ L h m → News h₀ L h ((I, oI) :: (C, oC) :: (D, LCg.lst ys) :: news₁) → (∀ p ∈ news₁, p.1 ≠ I ∧ p.1 ≠ C ∧ p.1 ≠ D) → ((@Ne Nat I C) ∧ (@Ne Nat I D) ∧ (@Ne Nat C D)) →
      wpAny (model prog w) A (isTrue ct (compEnvC scope cl C env) (eval ct (compEnvC scope cl C env))) (fun ok s' => if ok = true then
        wpAny (model prog w) A (eval elt (compEnvC scope cl C env)) (LCg.CompEnd h₀ L m { s with heap := h, toks := tk } I oI C oC D (LCg.lst ys) S (fun y news' => J (i + 1) (ys ++ [y]) news')) E' s'
        else LCg.CompEnd h₀ L m { s with heap := h, toks := tk } I oI C oC D (LCg.lst ys) S (fun _ news' => J (i + 1) ys news') Value.none s') E' { s with heap := h, toks := tk })
    (fin : ∀ ys news', J n ys news' → Fin ys news') :
    LCt.CompRestT prog w A h₀ L m env ct elt x scope cl s S P Fin n 0 [] news := by
  have key : ∀ (k i : Nat) (ys : List Value) (news₁ : List (Addr × Obj)), i + k = n → J i ys news₁ → LCt.CompRestT prog w A h₀ L m env ct elt x scope cl s S P Fin k i ys news₁ := by
    intro k
    induction k with
    | zero =>
      intro i ys news₁ e hJ
      have e' : i = n := by omega
      exact LCt.CompRestT.zero (fin ys news₁ (e' ▸ hJ))
    | succ k ih =>
      intro i ys news₁ e hJ
      refine LCt.CompRestT.succ fun v I oI C oC D m₂ h tk E' hv hC hx F N off ne => ?_
      refine wpAny_mono (step i ys news₁ v I oI C oC D m₂ h tk E' (by omega) hv hJ hC hx F N off.mem ne) (fun ok s₁ p => ?_) fun _ _ e => e
      cases ok with
      | true =>
        simp only [if_true] at p ⊢
        refine wpAny_mono p (fun y s₂ p => ?_) fun _ _ e => e
        obtain ⟨h', tk', news', e1, F', N', off', hS, hr⟩ := p
        exact ⟨h', tk', news', e1, F', N', off', hS, ih (i + 1) (ys ++ [y]) news' (by omega) hr⟩
      | false =>
        simp only [Bool.false_eq_true, if_false] at p ⊢
        obtain ⟨h', tk', news', e1, F', N', off', hS, hr⟩ := p
        exact ⟨h', tk', news', e1, F', N', off', hS, ih (i + 1) ys news' (by omega) hr⟩
  exact key n 0 [] news (by omega) h0
end
end
section
open PySem PySem.Calls PySem.W PyProof.Rows
theorem dp_entry_loop : entryFor table "dict.update.loop" = some Builtin.«dict.update.loop» := entryFor_of_tree (by kernel_rfl)
theorem dp_plain_loop : plainId "dict.update.loop" = true := by decide +kernel
theorem dp_list_keys : typeLookup (.type "list") "keys" = pure none := am_miss_of_fast (by decide +kernel)
theorem dp_mem : (["__module__", "__name__", "__qualname__", "__doc__", "__annotations__"] : List Str).contains ("keys" : Str) = false := by decide +kernel
section
variable {prog : Program} {w : World} {A : Around} {E : Value → Shared → Prop} {s : Shared} {h₀ : Heap} {L : Addr} {m : Str → Option Value} {news : List (Addr × Obj)}
theorem keys_none {a : Addr} {xs : Array Value} {k : Nat} {Q : Option Value → Shared → Prop} (hx : s.heap.get? a = some (listOf xs k)) (hA : A.handled = none)
    (h : ∀ h' tk, (∀ b ob, s.heap.get? b = some ob → h'.get? b = some ob) → Q none { s with heap := h', toks := tk }) : wpAny (model prog w) A (getAttr? (.ref a) "keys") Q E s := by
  obtain ⟨hp, g, d, tk, os⟩ := s
  have hT : ∀ tk', (⟨hp, g, d, tk', os⟩ : Shared).TypeIs (.ref a) "list" := fun _ => ⟨_, hx, rfl⟩
  have f1 := sub_AttributeError
  have f3 := F.slot_list_getattribute.lookup
  have f4 := F.slot_list_getattribute.bind (.ref a)
  have f5 := am_list_getattr_none
  unfold getAttr? getAttrBy? getAttrBy
  repeat (any_goals (first | assumption | exact hT _ | ((with_reducible show wpAny _ _ (call (Value.builtin "list.__getattribute__") _ _) _ _ _); refine call_meets F.slot_list_getattribute (hT _) am_entry_list_getattribute (F.args_list_getattribute_2 _ _) (meets_getattribute_miss_list a xs k _ "keys" _ dp_list_keys dp_mem) ⟨hx, hA, fun h' tk' e hx' => ?_⟩) | wp_step))
  obtain ⟨t', u', he⟩ := hx'.there
  show wpAny _ _ (getattributeRaised _ _ _ _ _ _ _) _ _ _
  unfold getattributeRaised
  repeat (any_goals (first | assumption | wp_step))
  exact h _ _ hx'.keeps
/-- a pair of a number and True -/
def PairAt (S I : Addr) (h : Heap) (v : Value) (k : Int) : Prop := ∃ x o t n, v = .ref x ∧ h.get? x = some o ∧ o.cls = .type "tuple" ∧ o.data = .seq #[.int k t, .bool true] n ∧ x ≠ S ∧ x ≠ I
noncomputable def putAll : List Int → List (Int × Value) → List (Int × Value)
  | [], kvs => kvs
  | k :: ks, kvs => putAll ks (stored kvs k (.bool true))
theorem stored_len (kvs : List (Int × Value)) (k : Int) (v : Value) : (stored kvs k v).length ≤ kvs.length + 1 := by
  unfold stored; split <;> simp
theorem PairAt.keep {S I : Addr} {h h' : Heap} {v : Value} {k : Int} (x : PairAt S I h v k) (hk : ∀ b o, b ≠ S → b ≠ I → h.get? b = some o → h'.get? b = some o) : PairAt S I h' v k :=
  let ⟨x, o, t, n, e, ho, hc, hd, n1, n2⟩ := x
  ⟨x, o, t, n, e, hk _ _ n1 n2 ho, hc, hd, n1, n2⟩
theorem drop_succ_get {ks : List Int} {i : Nat} {k : Int} (h : ks[i]? = some k) : ks.drop i = k :: ks.drop (i + 1) := by
  obtain ⟨hi, e⟩ := List.getElem?_eq_some_iff.mp h
  rw [← e, List.drop_eq_getElem_cons hi]
theorem dict_loop {I l S : Addr} {vs : List Value} {ks : List Int} {R : Result → Shared → Prop} (hh : A.handled = none) (hlI : l ≠ I) (hSI : S ≠ I) (hSl : S ≠ l) (hsz : vs.length ≤ 1000) :
    ∀ (k i : Nat) (s : Shared) (kvs : List (Int × Value)) (j : Int) (t : Tok), vs.length - i = k → i ≤ vs.length → s.heap.IsListIter I l i → s.heap.IsList l vs.toArray → All2 (PairAt S I s.heap) vs ks → s.heap.DictOf (intKind prog w) S kvs → kvs.length ≤ i →
    (∀ h' tk, h'.DictOf (intKind prog w) S (putAll (ks.drop i) kvs) → (∀ b o, b ≠ S → b ≠ I → s.heap.get? b = some o → h'.get? b = some o) → R (.ok (.ret .none)) { s with heap := h', toks := tk }) →
    codeAny (model prog w) A (.builtin "dict.update.loop" ⟨[.ref S, .ref I, .int j t, .none], []⟩) R s := by
  intro k
  induction k with
  | zero =>
    intro i s kvs j t hk hi hit hl hp hd hle hR
    have hin : i = vs.length := by omega
    subst hin
    refine codeAny_builtin dp_entry_loop ?_
    rw [Around.under_plainId dp_plain_loop _]
    show wpAny _ A.in1 (pyNext (.ref I) >>= _) _ _ s
    refine wpAny_bind (wpAny_pyNext_list_end (by simpa using hh) hit hl (by simp) fun h' hs' => ?_)
    have e : ks.drop vs.length = [] := by rw [forall2_len hp, List.drop_length]
    show wpAny _ A.in1 (Builtin.Dict.addKeywords S [] >>= _) _ _ _
    refine wpAny_bind (wpAny_pure ?_)
    show wpAny _ A.in1 (ret Value.none) _ _ _
    refine wpAny_pure (hR h' _ ?_ fun b o _ hb e => hs' b o hb e)
    rw [e]
    obtain ⟨o, es, ep, ho, r⟩ := hd
    exact ⟨o, es, ep, hs' _ _ hSI ho, r⟩
  | succ k ih =>
    intro i s kvs j t hk hi hit hl hp hd hle hR
    have hlt : i < vs.length := by omega
    obtain ⟨q, hq, x, o, tq, n, ev, ho, hc, hdat, nS, nI⟩ := forall2_get hp (i := i) (a := vs[i]) (by simp [hlt])
    refine codeAny_builtin dp_entry_loop ?_
    rw [Around.under_plainId dp_plain_loop _]
    show wpAny _ A.in1 (pyNext (.ref I) >>= _) _ _ s
    refine wpAny_bind (wpAny_pyNext_list_item hit hl (x := .ref x) (by simp [hlt, ev]) fun h' hit' hs' => ?_)
    have k1 : ∀ b o, b ≠ S → b ≠ I → s.heap.get? b = some o → h'.get? b = some o := fun b o _ hb e => hs'.extBut b o hb e
    have ho' := k1 _ _ nS nI ho
    have hd' : h'.DictOf (intKind prog w) S kvs := hd.extBut hs'.extBut hSI
    have hT : Shared.TypeIs { s with heap := h' } (.ref x) "tuple" := ⟨_, ho', hc⟩
    dsimp only
    refine wpAny_bind (wpAny_holding ?_)
    refine wpAny_bind (wpAny_tryCatch ?_)
    unfold Builtin.Dict.pairItems
    refine wpAny_bind (wpAny_typeOf hT ?_)
    rw [if_pos (by decide)]
    refine wpAny_bind (wpAny_seqItems ho' hdat (wpAny_pure ?_))
    show wpAny _ _ (holding [Value.int q tq, Value.bool true] (dictSet S (.int q tq) (.bool true))) _ _ _
    refine wpAny_holding (wpAny_dictSet_pairs (knd := intKind prog w) (k := q) (intKind_is _ _ _ _) hd' (fun h2 hd2 hs2 => ?_) (by rw [sizeLine_eq]; omega))
    have k2 : ∀ b o, b ≠ S → b ≠ I → s.heap.get? b = some o → h2.get? b = some o := fun b o hb hb2 e => (hs2.2 b hb).trans (k1 b o hb hb2 e)
    refine wpAny_pure ⟨plainId_quiet dp_plain_loop _, ih (i + 1) _ _ _ _ (by omega) (by omega) ?_ ?_ ?_ hd2 (Nat.le_trans (stored_len _ _ _) (by omega)) fun h3 tk hd3 hk3 => ?_⟩
    · obtain ⟨o', q1, r1⟩ := hit'
      exact ⟨o', (hs2.2 I (Ne.symm hSI)).trans q1, r1⟩
    · obtain ⟨o', q1, r1⟩ := hl
      exact ⟨o', k2 l o' (Ne.symm hSl) hlI q1, r1⟩
    · exact hp.imp fun a b y => y.keep k2
    · refine hR h3 tk ?_ fun b o hb hb2 e => hk3 b o hb hb2 (k2 b o hb hb2 e)
      rw [drop_succ_get hq]; exact hd3
end
end
section
open PySem PySem.Calls PySem.W PyProof.Rows
section
variable {prog : Program} {w : World} {A : Around} {E : Value → Shared → Prop} {s : Shared} {h₀ : Heap} {L : Addr} {m : Str → Option Value} {news : List (Addr × Obj)}
theorem dp_call {l : Addr} {vs : List Value} {ks : List Int} {n : Nat} {Q : Value → Shared → Prop} (hh : A.handled = none) (hx : s.heap.get? l = some (listOf vs.toArray n)) (hsz : vs.length ≤ 1000)
    (hp : All2 (fun v k => ∃ x o t n, v = .ref x ∧ s.heap.get? x = some o ∧ o.cls = .type "tuple" ∧ o.data = .seq #[.int k t, .bool true] n) vs ks)
    (h : ∀ h' tk, h'.DictOf (intKind prog w) s.heap.objs.size (putAll ks []) → (∀ b o, s.heap.get? b = some o → h'.get? b = some o) → Q (.ref s.heap.objs.size) { s with heap := h', toks := tk }) :
    wpAny (model prog w) A (call (.type "dict") [.ref l]) Q E s := by
  refine callType_codes (Q₁ := fun obj s₁ => obj = .ref s.heap.objs.size ∧ s₁ = { s with heap := s.heap.push { cls := .type "dict", data := .dict #[] } }) F.kt_called_dict (F.kt_typeCall_dict_1 _) F.entry_dict_init (kt_code_dict_new _ ⟨rfl, rfl⟩) ?_
  rintro obj s₁ ⟨rfl, rfl⟩
  have hnew : (s.heap.push { cls := .type "dict", data := .dict #[] }).DictOf (intKind prog w) s.heap.objs.size [] := Heap.DictOf.new s.heap
  have hx' : (s.heap.push { cls := .type "dict", data := .dict #[] }).get? l = some (listOf vs.toArray n) := Heap.get?_push_of_some _ hx
  refine ⟨hnew.typeIs, F.args_dict_init_2 _ _, ?_⟩
  unfold Builtin.«dict.__init__»
  refine wpAny_bind ?_
  unfold Builtin.Dict.selfAndRest
  refine wpAny_bind (wpAny_notOrdered_dict hnew.typeIs ?_)
  show wpAny _ _ (pure (s.heap.objs.size, [Value.ref l])) _ _ _
  refine wpAny_pure ?_
  show wpAny _ _ (Builtin.Dict.updateFrom "dict.__init__" s.heap.objs.size (.ref l) [] .none) _ _ _
  unfold Builtin.Dict.updateFrom
  refine wpAny_bind (wpAny_typeOf (T := "list") ⟨_, hx', rfl⟩ ?_)
  rw [if_pos (by decide)]
  refine wpAny_bind (keys_none hx' (by simpa using hh) fun h1 tk1 hk1 => ?_)
  have hx1 := hk1 _ _ hx'
  dsimp only [Option.isNone]
  rw [if_pos rfl]
  refine wpAny_bind (wpAny_rule ?_)
  refine wpAny_bind (wpAny_pyIter_list (items := vs.toArray) ⟨_, hx1, rfl, _, rfl⟩ ?_)
  have hlt : s.heap.objs.size < h1.objs.size := Heap.lt_size (hk1 _ _ (Heap.get?_push_size _ rfl))
  have hll : l < s.heap.objs.size := Heap.lt_size hx
  refine wpAny_pure ⟨plainId_quiet dp_plain_loop _, dict_loop (vs := vs) (ks := ks) (l := l) (by simpa using hh) (Nat.ne_of_lt (Nat.lt_trans hll hlt)) (Nat.ne_of_lt hlt) (Nat.ne_of_gt hll) hsz vs.length 0 _ [] _ _ (by omega) (Nat.zero_le _) ⟨_, Heap.get?_push_size _ rfl, rfl, rfl⟩
    ⟨_, Heap.get?_push_of_some _ hx1, rfl, _, rfl⟩ (hp.imp ?_) ?_ (Nat.le_refl _) fun h2 tk2 hd2 hk2 => ⟨rfl, h h2 tk2 (by simpa using hd2) fun b o e => ?_⟩⟩
  · rintro v k ⟨x, o, t, n', rfl, ho, hc, hd⟩
    have hxl := Heap.lt_size ho
    exact ⟨x, o, t, n', rfl, Heap.get?_push_of_some _ (hk1 _ _ (Heap.get?_push_of_some _ ho)), hc, hd, Nat.ne_of_lt hxl, Nat.ne_of_lt (Nat.lt_trans hxl hlt)⟩
  · obtain ⟨o, es, ep, ho, r⟩ := hnew
    exact ⟨o, es, ep, Heap.get?_push_of_some _ (hk1 _ _ ho), r⟩
  · have hbl := Heap.lt_size e
    exact hk2 b o (Nat.ne_of_lt hbl) (Nat.ne_of_lt (Nat.lt_trans hbl hlt)) (Heap.get?_push_of_some _ (hk1 _ _ (Heap.get?_push_of_some _ e)))
/-- a pair (number, True) in the ledger -/
def PairIn (news : List (Addr × Obj)) (v : Value) (k : Int) : Prop := ∃ x t n, v = .ref x ∧ (x, ({ cls := .type "tuple", data := .seq #[.int k t, .bool true] n } : Obj)) ∈ news
theorem dict_pairs {l : Addr} {vs : List Value} {ks : List Int} {n : Nat} {Q : Value → Shared → Prop} (F : Fr h₀ L s.heap m) (N : News h₀ L s.heap news) (hbig : h₀.NoLimit) (hh : A.handled = none) (hl : (l, listOf vs.toArray n) ∈ news) (hp : All2 (PairIn news) vs ks) (hsz : vs.length ≤ 1000)
    (h : ∀ d h' o tk, Fr h₀ L h' m → News h₀ L h' ((d, o) :: news) → (∀ p ∈ news, p.1 < d) → (d == sysModules) = false → o.IsDictOf (intKind prog w) (putAll ks []) → Q (.ref d) { s with heap := h', toks := tk }) :
    wpAny (model prog w) A (call (.type "dict") [.ref l]) Q E s := by
  refine dp_call hh (N _ hl).1 hsz (hp.imp ?_) fun h' tk hd hk => ?_
  · rintro v k ⟨x, t, n', rfl, hx⟩
    exact ⟨x, _, t, n', rfl, (N _ hx).1, rfl, rfl⟩
  · obtain ⟨o, ho, hd'⟩ := Heap.dictOf_iff.mp hd
    have hnew : h₀.get? s.heap.objs.size = none := next_is_new F
    have hL : L < s.heap.objs.size := F.ns.lt
    refine h _ h' o tk (F.keeps hk) (fun p hp => ?_) (fun p hp => Heap.lt_size (N p hp).1) (F.notModules (modules_low hbig)) hd'
    rcases List.mem_cons.mp hp with rfl | hp
    · exact ⟨ho, Nat.ne_of_gt hL, hnew⟩
    · exact ⟨hk _ _ (N p hp).1, (N p hp).2⟩
end
/-- the keys -/
noncomputable def keysAll : List Int → List Int → List Int
  | [], acc => acc
  | k :: ks, acc => keysAll ks (if k ∈ acc then acc else acc ++ [k])
theorem stored_keys (kvs : List (Int × Value)) (k : Int) (v : Value) : (stored kvs k v).map (·.1) = if k ∈ kvs.map (·.1) then kvs.map (·.1) else kvs.map (·.1) ++ [k] := by
  unfold stored
  by_cases hk : k ∈ kvs.map (·.1)
  · have : (kvs.any fun kv => decide (kv.1 = k)) = true := by
      obtain ⟨p, hp, e⟩ := List.mem_map.mp hk
      exact List.any_eq_true.mpr ⟨p, hp, decide_eq_true e⟩
    rw [if_pos this, if_pos hk, List.map_map]
    apply List.map_congr_left
    intro p _
    simp only [Function.comp]
    split <;> rfl
  · have : (kvs.any fun kv => decide (kv.1 = k)) = false := by
      apply Bool.eq_false_iff.mpr
      intro hh
      obtain ⟨p, hp, e⟩ := List.any_eq_true.mp hh
      exact hk (List.mem_map.mpr ⟨p, hp, of_decide_eq_true e⟩)
    rw [if_neg (by rw [this]; exact Bool.false_ne_true), if_neg hk]
    simp
theorem putAll_keys : ∀ (ks : List Int) (kvs : List (Int × Value)), (putAll ks kvs).map (·.1) = keysAll ks (kvs.map (·.1))
  | [], _ => rfl
  | k :: ks, kvs => by
    rw [putAll, keysAll, putAll_keys ks, stored_keys]
theorem keysAll_len : ∀ (ks acc : List Int), (keysAll ks acc).length ≤ acc.length + ks.length ∧ ((keysAll ks acc).length = acc.length + ks.length ↔ ks.Nodup ∧ ∀ k ∈ ks, k ∉ acc)
  | [], acc => by simp [keysAll]
  | k :: ks, acc => by
    rw [keysAll]
    by_cases h : k ∈ acc
    · rw [if_pos h]
      have ⟨a, b⟩ := keysAll_len ks acc
      refine ⟨by simp only [List.length_cons]; omega, ⟨fun e => ?_, fun e => absurd h (e.2 k (.head _))⟩⟩
      simp only [List.length_cons] at e
      omega
    · rw [if_neg h]
      have ⟨a, b⟩ := keysAll_len ks (acc ++ [k])
      rw [List.length_append, List.length_singleton] at a b
      refine ⟨by simp only [List.length_cons]; omega, ?_⟩
      rw [List.length_cons, show acc.length + (ks.length + 1) = acc.length + 1 + ks.length by omega, b, List.nodup_cons]
      constructor
      · rintro ⟨n, d⟩
        refine ⟨⟨fun hm => ?_, n⟩, fun x hx => ?_⟩
        · exact d k hm (by simp)
        · rcases List.mem_cons.mp hx with rfl | hx
          · exact h
          · exact fun hm => d x hx (List.mem_append_left _ hm)
      · rintro ⟨⟨n1, n⟩, d⟩
        refine ⟨n, fun x hx hm => ?_⟩
        rcases List.mem_append.mp hm with hm | hm
        · exact d x (.tail _ hx) hm
        · rw [List.mem_singleton.mp hm] at hx; exact n1 hx
theorem putAll_len (ks : List Int) : (putAll ks []).length ≤ ks.length ∧ ((putAll ks []).length = ks.length ↔ ks.Nodup) := by
  have e : (putAll ks []).length = (keysAll ks []).length := by rw [← List.length_map (f := (·.1)), putAll_keys]; rfl
  have ⟨a, b⟩ := keysAll_len ks []
  rw [e]
  refine ⟨by simpa using a, ?_⟩
  simpa using b
end
section
open PySem PySem.Calls PySem.W PyProof.Rows
theorem place_of_range {a b k : Int} : (Builtin.Range.rangePlace? a b 1 k).isSome = decide (a ≤ k ∧ k < b) := by
  unfold Builtin.Range.rangePlace?
  simp only [Int.emod_one]
  by_cases h : a ≤ k ∧ k < b
  · simp [h]
  · by_cases h1 : a ≤ k
    · have h2 : ¬ k < b := fun z => h ⟨h1, z⟩
      simp [h1, h2]
    · simp [h1]
section
variable {prog : Program} {w : World} {A : Around} {E : Value → Shared → Prop} {s : Shared} {Q : Value → Shared → Prop}
theorem range_contains {r : Addr} {a b k : Int} {t u v tk : Tok} {Q : PySem.Fin → Shared → Prop} (hr : IsRange s.heap r a b 1 t u v) (h : Q (.done (.ret (.bool (decide (a ≤ k ∧ k < b))))) s) : wpAny (model prog w) A (Builtin.«range.__contains__» ⟨[.ref r, .int k tk], []⟩) Q E s := by
  show wpAny _ _ (rule "range.contains.reckoned" >>= _) _ _ s
  refine wpAny_bind (wpAny_rule ?_)
  refine wpAny_bind ?_
  unfold Builtin.Range.rangeFields
  show wpAny _ _ (field (.ref r) 0 >>= _) _ _ s
  refine wpAny_bind (wpAny_field hr rfl (x := .int a t) rfl ?_)
  show wpAny _ _ (field (.ref r) 1 >>= _) _ _ s
  refine wpAny_bind (wpAny_field hr rfl (x := .int b u) rfl ?_)
  show wpAny _ _ (field (.ref r) 2 >>= _) _ _ s
  refine wpAny_bind (wpAny_field hr rfl (x := .int 1 v) rfl ?_)
  refine wpAny_pure ?_
  show wpAny _ _ (ret (.bool (Builtin.Range.rangePlace? a b 1 k).isSome)) _ _ s
  rw [place_of_range]
  exact wpAny_pure h
/-- not in a range -/
theorem notIn_range {r : Addr} {a b k : Int} {t u v tk : Tok} (hr : IsRange s.heap r a b 1 t u v) (h1 : a ≤ k ∧ k < b → Q (.bool false) s) (h2 : ¬ (a ≤ k ∧ k < b) → Q (.bool true) s) : wpAny (model prog w) A (compareOp .NotIn (.int k tk) (.ref r)) Q E s := by
  have hT : s.TypeIs (.ref r) "range" := ⟨_, hr, rfl⟩
  show wpAny _ A (do return .bool (!(← contains (.ref r) (.int k tk)))) Q E s
  refine wpAny_bind (wpAny_contains_slot hT F.slot_range_contains (wpAny_call_entry F.slot_range_contains hT F.entry_range_contains (range_contains hr ?_) (F.args_range_contains_2 _ _)))
  refine ⟨_, rfl, wpAny_truthy_bool (wpAny_pure ?_)⟩
  by_cases h : a ≤ k ∧ k < b
  · rw [decide_eq_true h]; exact h1 h
  · rw [decide_eq_false h]; exact h2 h
end
end
section
open PySem PySem.Calls PySem.W PyProof.Rows
/-- the rows of the table with the kind's name, one at most -/
def KindsJ (led : List (Addr × Obj)) (kind : Str) (nw : List (Addr × Obj)) (i : Nat) (ys : List Value) (news₁ : List (Addr × Obj)) : Prop :=
  news₁ = nw ∧ ((ys = [] ∧ ∀ r ∈ kRows.take i, kind ≠ r.name) ∨ ∃ r ∈ kRows.take i, kind = r.name ∧ ∃ v, ys = [v] ∧ TabRow led v r)
theorem kRows_apart : ∀ i < 6, ∀ r' ∈ kRows.take i, (kRows[i]?.map (·.name)) ≠ some r'.name := by decide +kernel
theorem kinds_t {led nw : List (Addr × Obj)} {kind : Str} {i : Nat} {ys : List Value} {r : KRow} {v : Value} (hi : i < 6) (h : (ys = [] ∧ ∀ r ∈ kRows.take i, kind ≠ r.name) ∨ ∃ r ∈ kRows.take i, kind = r.name ∧ ∃ v, ys = [v] ∧ TabRow led v r)
    (hr : kRows[i]? = some r) (hv : TabRow led v r) (hk : (r.name == kind) = true) : KindsJ led kind nw (i + 1) (ys ++ [v]) nw := by
  have hk' : kind = r.name := (eq_of_beq hk).symm
  refine ⟨rfl, .inr ⟨r, ?_, hk', v, ?_, hv⟩⟩
  · rw [List.take_add_one, hr]; exact List.mem_append_right _ (.head _)
  · rcases h with ⟨rfl, _⟩ | ⟨r', hr', hk2, _⟩
    · rfl
    · exact absurd (by rw [hr]; exact congrArg some (hk'.symm.trans hk2)) (kRows_apart i hi r' hr')
theorem kinds_f {led nw : List (Addr × Obj)} {kind : Str} {i : Nat} {ys : List Value} {r : KRow} (h : (ys = [] ∧ ∀ r ∈ kRows.take i, kind ≠ r.name) ∨ ∃ r ∈ kRows.take i, kind = r.name ∧ ∃ v, ys = [v] ∧ TabRow led v r)
    (hr : kRows[i]? = some r) (hk : (r.name == kind) = false) : KindsJ led kind nw (i + 1) ys nw := by
  have hk' : kind ≠ r.name := fun e => by rw [e] at hk; simp at hk
  refine ⟨rfl, ?_⟩
  rw [List.take_add_one, hr]
  rcases h with ⟨h1, h2⟩ | ⟨r', hr', h3, h4⟩
  · refine .inl ⟨h1, fun q hq => ?_⟩
    rcases List.mem_append.mp hq with hq | hq
    · exact h2 q hq
    · have e : q = r := by simpa using hq
      rw [e]; exact hk'
  · exact .inr ⟨r', List.mem_append_left _ hr', h3, h4⟩

theorem nl_prec {kind : Str} {prec hei wid : Int} {rows : List Row4} {r : KRow} (hr : r ∈ kRows) (hk : kind = r.name) (h : prec ∉ r.ps) : ¬ LetBy kind prec hei wid rows := by
  rintro ⟨⟨r', hr', hk', hp⟩, _⟩
  have := kRows_name r hr r' hr' (hk.symm.trans hk')
  subst this
  exact h hp
/-- the pairs (ident, True) made so far -/
def PairJ (rows : List Row4) (news : List (Addr × Obj)) (i : Nat) (ys : List Value) (news₁ : List (Addr × Obj)) : Prop :=
  ∃ led, news₁ = led ++ news ∧ (∀ q ∈ led, ∀ p ∈ news, p.1 ≠ q.1) ∧ All2 (PairIn led) ys ((rows.take i).map (·.i))
theorem PairIn.mono {news news' : List (Addr × Obj)} {v : Value} {k : Int} (h : PairIn news v k) (hs : ∀ p ∈ news, p ∈ news') : PairIn news' v k :=
  let ⟨x, t, n, e, hm⟩ := h
  ⟨x, t, n, e, hs _ hm⟩
theorem pair_turn {h₀ h' : Heap} {L I C D x : Addr} {m : Str → Option Value} {s₁ : Shared} {oI oC oD : Obj} {S : List (Addr × Obj) → Prop} {rows : List Row4} {news led : List (Addr × Obj)} {i tk n : Nat} {ys : List Value} {r : Row4} {t1 : Tok}
    (F : Fr h₀ L h' m) (N : News h₀ L h' ((x, ({ cls := .type "tuple", data := .seq #[.int r.i t1, .bool true] n } : Obj)) :: (I, oI) :: (C, oC) :: (D, oD) :: (led ++ news)))
    (l1 : @LT.lt Nat _ I x ∧ @LT.lt Nat _ C x ∧ @LT.lt Nat _ D x ∧ AllLt x (led ++ news)) (off : ∀ p ∈ led ++ news, p.1 ≠ I ∧ p.1 ≠ C ∧ p.1 ≠ D)
    (hap : ∀ q ∈ led, ∀ p ∈ news, p.1 ≠ q.1) (hys : All2 (PairIn led) ys ((rows.take i).map (·.i))) (hr : rows[i]? = some r) (hS : ∀ l, (∀ p ∈ news, p ∈ l) → S l) :
    LCg.CompEnd h₀ L m s₁ I oI C oC D oD S (fun y news' => PairJ rows news (i + 1) (ys ++ [y]) news') (.ref x) { s₁ with heap := h', toks := tk } := by
  obtain ⟨l1, l2, l3, l4⟩ := l1
  refine comp_end (news' := ((x, ({ cls := .type "tuple", data := .seq #[.int r.i t1, .bool true] n } : Obj)) :: led) ++ news) F N ?_ (off3_of ?_) (hS _ fun p hp => List.mem_append_right _ hp) ⟨_, rfl, ?_, ?_⟩
  · intro p hp
    simp only [List.cons_append, List.mem_cons] at hp ⊢
    rcases hp with h | h | h | h | h <;> simp [h]
  · intro p hp
    rcases List.mem_cons.mp hp with rfl | hp
    · exact ⟨(Nat.ne_of_lt l1).symm, (Nat.ne_of_lt l2).symm, (Nat.ne_of_lt l3).symm⟩
    · exact off p hp
  · intro q hq p hp
    rcases List.mem_cons.mp hq with rfl | hq
    · exact allLt_ne l4 p (List.mem_append_right _ hp)
    · exact hap q hq p hp
  · rw [List.take_add_one, hr]
    simp only [Option.toList_some, List.map_append, List.map_cons, List.map_nil]
    exact (hys.imp fun a b h => h.mono fun p hp => .tail _ hp).snoc ⟨x, t1, n, rfl, .head _⟩

def colOk (r : Row4) : Nat → Prop
  | 0 => 0 ≤ r.i ∧ r.i < 256
  | 1 => 1 ≤ r.a ∧ r.a < 5
  | 2 => 1 ≤ r.d ∧ r.d < 5
  | 3 => 0 ≤ r.q ∧ r.q < 4
  | _ => True
theorem col_ok {r : Row4} : (∀ j < 4, colOk r j) ↔ r.ok := by
  constructor
  · intro h
    have h0 := h 0 (by omega)
    have h1 := h 1 (by omega)
    have h2 := h 2 (by omega)
    have h3 := h 3 (by omega)
    simp only [colOk] at h0 h1 h2 h3
    unfold Row4.ok; omega
  · rintro ⟨h0, h1, h2, h3⟩ j hj
    rcases (by omega : j = 0 ∨ j = 1 ∨ j = 2 ∨ j = 3) with rfl | rfl | rfl | rfl <;> (simp only [colOk]; omega)
/-- the columns that do not fit -/
def ColJ (r : Row4) (nw : List (Addr × Obj)) (i : Nat) (ys : List Value) (news₁ : List (Addr × Obj)) : Prop :=
  news₁ = nw ∧ ∃ bs, IntsAre ys bs ∧ (bs = [] ↔ ∀ j < i, colOk r j)
theorem ints_snoc {ys : List Value} {bs : List Int} {x : Int} {t : Tok} (h : IntsAre ys bs) : IntsAre (ys ++ [.int x t]) (bs ++ [x]) := by
  induction h with
  | nil => exact .cons _ _ .nil
  | cons a b _ ih => exact .cons a b ih
theorem col_t {r : Row4} {nw : List (Addr × Obj)} {i : Nat} {ys : List Value} {bs : List Int} {x : Int} {t : Tok} (h : IntsAre ys bs) (hc : ¬ colOk r i) : ColJ r nw (i + 1) (ys ++ [.int x t]) nw :=
  ⟨rfl, _, ints_snoc h, ⟨fun e => absurd e (by simp), fun e => absurd (e i (by omega)) hc⟩⟩
theorem col_f {r : Row4} {nw : List (Addr × Obj)} {i : Nat} {ys : List Value} {bs : List Int} (h : IntsAre ys bs) (hz : bs = [] ↔ ∀ j < i, colOk r j) (hc : colOk r i) : ColJ r nw (i + 1) ys nw :=
  ⟨rfl, _, h, hz.trans ⟨fun e j hj => by
    rcases (by omega : j < i ∨ j = i) with h | rfl
    · exact e j h
    · exact hc, fun e j hj => e j (by omega)⟩⟩
theorem apart_one {h₀ h : Heap} {L c : Addr} {o : Obj} {all : List (Addr × Obj)} (N : News h₀ L h all) (hm : (c, o) ∈ all) : ∃ nr, News h₀ L h ((c, o) :: nr) ∧ (∀ p ∈ nr, @Ne Nat p.1 c) ∧ (∀ p ∈ all, @Ne Nat p.1 c → p ∈ nr) ∧ (∀ p ∈ nr, p ∈ all) := by
  refine ⟨all.filter fun p => decide (p.1 ≠ c), ?_, ?_, ?_, ?_⟩
  · intro p hp
    rcases List.mem_cons.mp hp with rfl | hp
    · exact N _ hm
    · exact N _ (List.mem_filter.mp hp).1
  · intro p hp; exact of_decide_eq_true (List.mem_filter.mp hp).2
  · intro p hp h; exact List.mem_filter.mpr ⟨hp, decide_eq_true h⟩
  · intro p hp; exact (List.mem_filter.mp hp).1
/-- between the turns of the last loop: the cell of row, all else as it was, and the rows that were seen fit -/
def LotJ (c2 : Addr) (nr : List (Addr × Obj)) (rows : List Row4) (i : Nat) (_ : Str → Option Value) (news₁ : List (Addr × Obj)) : Prop :=
  ∃ o2 v₀, news₁ = (c2, o2) :: nr ∧ o2.data = .cell v₀ ∧ ∀ r ∈ rows.take i, r.ok
theorem nl_dup {kind : Str} {prec hei wid : Int} {rows : List Row4} {nl : Nat} (h1 : nl ≤ (rows.map fun x => x.i).length) (h2 : nl = (rows.map fun x => x.i).length ↔ (rows.map fun x => x.i).Nodup) (h : (nl : Int) < (rows.length : Int)) : ¬ LetBy kind prec hei wid rows := fun e => by
  have := h2.mpr e.2.2.2.2.2
  rw [List.length_map] at this
  omega

section
variable {prog : Program} {w : World} {A : Around} {E : Value → Shared → Prop} {s : Shared} {h₀ : Heap} {L : Addr} {news : List (Addr × Obj)}
/-- a dict of n pairs -/
def PD (prog : Program) (w : World) (o : Obj) (n : Nat) : Prop := ∃ kvs, o.IsDictOf (intKind prog w) kvs ∧ kvs.length = n ∧ n ≤ 1000
theorem dict_pd {m : Str → Option Value} {l : Addr} {vs : List Value} {ks : List Int} {n : Nat} {Q : Value → Shared → Prop} (F : Fr h₀ L s.heap m) (N : News h₀ L s.heap news) (hbig : h₀.NoLimit) (hh : A.handled = none) (hl : (l, listOf vs.toArray n) ∈ news) (hp : All2 (PairIn news) vs ks) (hsz : vs.length ≤ 1000)
    (h : ∀ d h' o tk nl, Fr h₀ L h' m → News h₀ L h' ((d, o) :: news) → (∀ p ∈ news, p.1 < d) → (d == sysModules) = false → PD prog w o nl → nl ≤ ks.length → (nl = ks.length ↔ ks.Nodup) → Q (.ref d) { s with heap := h', toks := tk }) :
    wpAny (model prog w) A (call (.type "dict") [.ref l]) Q E s := by
  have z := putAll_len ks
  have z2 := forall2_len hp
  exact dict_pairs F N hbig hh hl hp hsz fun d h' o tk F' N' l1 lo hd => h d h' o tk _ F' N' l1 lo ⟨_, hd, rfl, by omega⟩ z.1 z.2
theorem len_pairs {d : Addr} {o : Obj} {nl : Nat} {Q : Value → Shared → Prop} (N : News h₀ L s.heap news) (hp : (d, o) ∈ news) (hd : PD prog w o nl) (lo : (d == sysModules) = false) (h : Q (.int nl (s.toks + 1)) { s with toks := s.toks + 1 + 1 }) :
    wpAny (model prog w) A (call (.builtin "len") [.ref d]) Q E s := by
  obtain ⟨kvs, hd, rfl, hfit⟩ := hd
  exact kda_len N hp hd lo (Nat.le_trans hfit (by decide)) h
end
section
variable {prog : Program} {w : World} {p : Program} {loose : List Str} {mean : ExcName → Option Value} {mg mb : Str → Option Value}
    {dp un : Nat} {gd : Option (List Code)} {cn : Str} {cs : Scope} {a : Addr} {ccd : Value} {cl : List (Str × Addr)} {outer : List Env} {A₀ : Around} {base h₀ : Heap} {L : Addr} {m : Str → Option Value} {s : Shared} {Q E : Value → Shared → Prop}
local macro_rules | `(tactic| k_all) => `(tactic| with_reducible assumption)
local macro_rules | `(tactic| k_mem) => `(tactic| first | with_reducible assumption | exact List.mem_cons_self | (refine' List.mem_cons_of_mem _ ?_; k_mem))

local macro_rules | `(tactic| walk_at "TPost") => `(tactic| (dsimp only [TPost]))
local macro_rules | `(tactic| walk_at "compareOp NotEq ref ref") => `(tactic| (k_here; k_dflt (refine' ne_nil_ints ?N ?a ?i ?b ?u ?_ ?_; (case N => k_asm); (case a => k_mem); (case i => assumption); (case b => k_mem); (case u => ktr_units)); intro hn'; (try dsimp only)))
local macro_rules | `(tactic| walk_at "ite") => `(tactic| first | with_reducible refine ite_tt ?_ | with_reducible refine ite_ff ?_)
local macro_rules | `(tactic| walk_at "call builtin:len") => `(tactic| (k_here; (with_reducible show wpAny _ _ (call (Value.builtin "len") [Value.ref _]) _ _ _); k_dflt (refine' len_pairs ?N ?q ?d ?lo ?_; (case N => k_asm); (case q => k_mem); (case d => assumption); (case lo => assumption); k_whole)))
local macro_rules | `(tactic| walk_at "call type:dict") => `(tactic| (k_here; (with_reducible show wpAny _ _ (call (Value.type _) [Value.ref _]) _ _ _); k_dflt (refine' dict_pd ?F ?N ?b (by rfl) ?l ?p ?z ?_; (case F => k_asm); (case N => k_asm); (case b => assumption); (case l => k_mem); (case p => assumption); (case z => assumption)); intro d' h' o' tk' nl' F' N' l1' lo' hd' hn1' hn2'; k_lt l1'; (try dsimp only); (try k_fold)))
local macro_rules | `(tactic| walk_at "exec For Name Subscript cons nil") => `(tactic| (k_here; (rename Fr _ _ _ _ => lF'); (with_unfolding_all refine' For_turns lF' ?_; k_whole)))
local macro_rules | `(tactic| walk_at "subscriptTail") => `(tactic| (k_here; (with_reducible show wpAny _ _ (subscriptTail _ _ (Value.ref _) (Value.int _ _)) _ _ _); k_dflt (refine' item_at (News.isList ?N ?q) ?h1 ?h2 ?h3 ?_ ?h4; (case N => k_asm); (case q => k_mem); (case h1 => decide); (case h2 => decide); (case h3 => exact rfl); (case h4 => with_reducible first | exact subsc_const | exact subsc_binop | exact subsc_call | exact subsc_name); k_whole)))
local macro_rules | `(tactic| walk_at "call ref") => `(tactic| (k_here; k_dflt (refine' tab_spec ?k1 ?k2 ?k3 ?k4 ?k5 ?k6 ?k12 ?k13 ?_; (case k1 => k_asm); (case k2 => k_asm); (case k3 => k_asm); (case k4 => k_asm); (case k5 => first | exact rfl | assumption); (case k6 => k_asm); (case k12 => ktr_room); (case k13 => ktr_units)); intro tb' vs' n' led' h' tk' F' N' hT' hA'; (try dsimp only); (try k_fold)))
local macro_rules | `(tactic| walk_at "eval ListComp") => `(tactic| (k_here; (fail_if_success lct_look); k_dflt (refine LCg.ListComp_U (F₀ := by k_asm) (by with_unfolding_all rfl) (by decide) (by rfl) (by decide) (by rfl) ?_)))
local macro_rules | `(tactic| walk_at "eval ListComp") => `(tactic| (k_here; lct_look; k_dflt (refine LCt.ListComp_T (F₀ := by k_asm) (by with_unfolding_all rfl) (by decide) (by rfl) (by decide) (by rfl) ?_)))
local macro_rules | `(tactic| walk_at "exec Assign cons ListComp") => `(tactic| (k_here; lct_look; k_dflt (refine LCt.Assign_ListComp_T (F₀ := by k_asm) (by rfl) (by with_unfolding_all rfl) (by with_unfolding_all rfl) (by decide) (by rfl) (by decide) (by rfl) (by rfl) (by rfl) ?_)))

local macro_rules | `(tactic| walk_at "call builtin:len") => `(tactic| (k_here; (with_reducible show wpAny _ _ (call (Value.builtin "len") [Value.ref _]) _ _ _); k_dflt (refine' len_list (News.isList ?N ?q) ?h ?_; (case N => k_asm); (case q => k_mem); (case h => assumption); k_whole)))

local macro_rules | `(tactic| walk_at "compareOp Eq ref ref") => `(tactic| (k_here; k_dflt (refine' eq_row_nil2 ?N ?a ?x ?p ?i ?r ?b ?u ?_; (case N => k_asm); (case a => k_mem); (case x => k_mem); (case p => k_mem); (case i => assumption); (case r => assumption); (case b => k_mem); (case u => ktr_units); k_whole)))
local macro_rules | `(tactic| walk_at "compareOp NotIn int ref") => `(tactic| (k_here; k_dflt (refine' notIn_ints ?N ?a ?i ?u ?_ ?_; (case N => k_asm); (case a => k_mem); (case i => assumption); (case u => ktr_units)); intro hn'; (try dsimp only)))
local macro_rules | `(tactic| walk_at "compareOp NotIn int ref") => `(tactic| (k_here; k_dflt (refine' notIn_range (by assumption) ?_ ?_); intro hn'; (try dsimp only)))
theorem is_let_spec {ta : Addr} {kind : Str} {prec hei wid : Int} {rows : List Row4} {news : List (Addr × Obj)}
    (B : Below A₀ base outer h₀) (F : Fr h₀ L s.heap m) (X : (Kc w.params).In h₀) (T : Top p loose mean mg mb h₀) (hk : cs.kind = .function)
    (N : News h₀ L s.heap news) (hT : ToldAt news ta kind prec hei wid rows) (hkl : KOk kind) (hlen : rows.length ≤ 1000)
    (hdp : dp + 6 < recursionLimit) (hun : un + 200 < cLine)
    (ret : ∀ b h' tk', (b = true ↔ LetBy kind prec hei wid rows) → Fr h₀ L h' m → News h₀ L h' news → Q (.bool b) { s with heap := h', toks := tk' }) :
    wpAny (model prog w) (ktrTop dp un gd cn cs L a ccd cl outer) (call (.ref 242) [.ref ta]) Q E s := by
  have hfill : (fun (_ : OpenLaw) (_ : Params → Frag) => True) PySem.Challenge.rw_nz0245_01 Kc := by k_fill; trivial
  clear hfill
  obtain ⟨rl, t1, t2, t3, t4, n1, vs, n2, hm1, hm2, hrows⟩ := hT
  have hvl : vs.length = rows.length := forall2_len hrows
  have hkl1 := hkl.1
  have hvz : vs.toArray.size = rows.length := by simpa using hvl
  have hfit : ((vs.toArray.size : Nat) : Int) < 2 ^ 63 := by omega
  refine wpAny_call ?_
  k_dflt (refine' code_defC ?k1 ?k2 ?k3 ?k4 ?k5 ?kA ?kF ?kK ?k6 ?k7 ?k8 ?k9 ?kB ?kD ?_ ?c2 ?c3 ?c4; (case kA => exact rfl); (case kF => exact rfl); (case kK => assumption); (case k1 => k_asm); (case k2 => k_asm); (case k3 => k_asm); (case k4 => k_asm); (case k5 => k_asm); (case k6 => k_is); (case k7 => k_is); (case k8 => ktr_room); (case k9 => exact BindsTo.of_eq rfl); (case kB => exact rfl); (case kD => decide +kernel); (case c2 => exact rfl); (case c3 => exact rfl); (case c4 => exact rfl); k_whole; intro g' L' h' tk' cells' FG' F' N' Y' B' X' T' l1; (try k_lt l1); k_cells Y'; (try simp only [List.cons_append, List.nil_append] at N'); (try dsimp only); (try k_lift B'); (try k_fold))
  rename_i o1 o2 o3 d1 d2 d3
  replace d1 : o1.data = Data.cell none := d1
  replace d2 : o2.data = Data.cell none := d2
  replace d3 : o3.data = Data.cell (some (.ref ta)) := d3
  replace F' : Fr g' L' h' (fun _ => none) := F'
  have hl1 : ∀ p ∈ news, @LT.lt Nat _ p.1 L' := l1
  k_steps
  rename_i tb tvs tn led h2 tk2 F2 N2 hT2 hA2
  obtain ⟨nw, hnw⟩ : ∃ nw, nw = (tb, listOf tvs tn) :: (led ++ [(L' + 1 + 1 + 1, o1), (L' + 1 + 1, o2), (L' + 1, o3)] ++ news) := ⟨_, rfl⟩
  have hsz6 : tvs.size = 6 := by
    have := forall2_len hT2
    rw [Array.length_toList] at this
    exact this
  have mT : (tb, listOf tvs tn) ∈ nw := by rw [hnw]; exact .head _
  have mL : ∀ p ∈ led, p ∈ nw := fun p hp => by rw [hnw]; exact .tail _ (List.mem_append_left _ (List.mem_append_left _ hp))
  have mN : ∀ p ∈ news, p ∈ nw := fun p hp => by rw [hnw]; exact .tail _ (List.mem_append_right _ hp)
  have mo1 : (L' + 1 + 1 + 1, o1) ∈ nw := by rw [hnw]; exact .tail _ (List.mem_append_left _ (List.mem_append_right _ (.head _)))
  have mo2 : (L' + 1 + 1, o2) ∈ nw := by rw [hnw]; exact .tail _ (List.mem_append_left _ (List.mem_append_right _ (.tail _ (.head _))))
  have mo3 : (L' + 1, o3) ∈ nw := by rw [hnw]; exact .tail _ (List.mem_append_left _ (List.mem_append_right _ (.tail _ (.tail _ (.head _)))))
  have mta := mN _ hm1
  have mrl := mN _ hm2
  have ne1 : @Ne Nat (L' + 1) (L' + 1 + 1) := by omega
  have ne2 : @Ne Nat (L' + 1) (L' + 1 + 1 + 1) := by omega
  have ne3 : @Ne Nat (L' + 1 + 1) (L' + 1 + 1 + 1) := by omega
  have N2' : News g' L' h2 nw := by rw [hnw]; simpa using N2
  refine LCt.CompSrcT.ledger (by rfl) F2 N2' mT (by rw [sizeLine_eq]; omega) fun g9 => compT (KindsJ led kind nw) ⟨rfl, .inl ⟨rfl, by simp⟩⟩ ?_ ?_
  · clear hnw
    rintro i ys news₁ v I oI C oC D m₂ h tk E' hi hv ⟨rfl, hJ⟩ hC hx F3 N3 off ne
    obtain ⟨r, hr, x, px, u1, u2, pvs, q1, q2, rfl, hmx, hmp, hI⟩ := forall2_get hT2 (i := i) (a := v) (by simpa using hv)
    have mx := mL _ hmx
    k_steps
    · exact comp_end F3 N3 (fun p hp => hp) (off3_of off) (.inr ⟨_, mT, rfl, _, rfl⟩) (kinds_t (by omega) hJ hr ⟨x, px, u1, u2, pvs, q1, q2, rfl, hmx, hmp, hI⟩ (by assumption))
    · exact comp_end F3 N3 (fun p hp => hp) (off3_of off) (.inr ⟨_, mT, rfl, _, rfl⟩) (kinds_f hJ hr (by assumption))
  · rintro ys news' ⟨rfl, hJ⟩
    unfold LCg.FinA
    intro D h tk F3 N3 o4
    have oD := off1_ne o4
    clear o4
    rcases hJ with ⟨rfl, hJ⟩ | ⟨r, hr, hkn, v, rfl, x, px, u1, u2, pvs, q1, q2, rfl, hmx, hmp, hI⟩
    · have hJ' : ∀ r ∈ kRows, kind ≠ r.name := by rw [hsz6] at hJ; exact hJ
      k_steps
      exact ret false _ _ ⟨fun e => (nomatch e), fun e => absurd e.1 fun ⟨r, hr, e1, _⟩ => hJ' r hr e1⟩ (by k_asm) (news_sub (by assumption) fun p hp => .tail _ (.tail _ (mN p hp)))
    · rw [hsz6] at hr
      have hr' : r ∈ kRows := hr
      have hTR : TabRow led (.ref x) r := ⟨x, px, u1, u2, pvs, q1, q2, rfl, hmx, hmp, hI⟩
      clear hnw
      have mx := mL _ hmx
      have mp := mL _ hmp
      k_steps
      · rename_i F5 N5 K5 hw5 z1 z2
        obtain ⟨nb, hnb⟩ : ∃ nb, nb = (L' + 1 + 1 + 1, o1) :: (L' + 1 + 1, o2) :: (L' + 1, o3) :: news := ⟨_, rfl⟩
        have mN6 : ∀ p ∈ news, p ∈ nb := fun p hp => by rw [hnb]; exact .tail _ (.tail _ (.tail _ hp))
        have mrl6 := mN6 _ hm2
        have hnb1 : ∀ p ∈ nb, p ∈ news' := fun p hp => by
          rw [hnb] at hp
          rcases List.mem_cons.mp hp with rfl | hp
          · exact mo1
          · rcases List.mem_cons.mp hp with rfl | hp
            · exact mo2
            · rcases List.mem_cons.mp hp with rfl | hp
              · exact mo3
              · exact mN _ hp
        have N6 := news_sub (news := nb) N5 (fun p hp => .tail _ (.tail _ (hnb1 p hp)))
        refine LCg.CompSrc.ledger (by rfl) F5 N6 mrl6 (by rw [List.size_toArray, sizeLine_eq]; omega) fun g9 => compL (PairJ rows nb) ⟨[], rfl, fun _ h => (nomatch h), .nil⟩ ?_ ?_
        · clear N5 N6 K5
          rintro i ys news₁ v I oI C oC D2 m₂ h tk E' hv ⟨led2, rfl, hap, hys⟩ hC hx F7 N7 off ne
          obtain ⟨r2, hr2, x2, t1', t2', t3', t4', nn, rfl, hx2⟩ := forall2_get hrows hv
          have hx2' : (x2, listOf #[.int r2.i t1', .int r2.a t2', .int r2.d t3', .int r2.q t4'] nn) ∈ led2 ++ nb := List.mem_append_right _ (mN6 _ hx2)
          k_steps
          exact pair_turn (by assumption) (by assumption) (by assumption) off hap hys hr2 (fun l hl => .inr ⟨_, hl _ mrl6, rfl, _, rfl⟩)
        · rintro ys news9 ⟨led2, rfl, hap, hys⟩
          unfold LCg.FinE
          intro D2 h tk F7 N7 o7
          have oD2 := off1_ne o7
          clear o7 N5 N6 K5
          rw [hvl, List.take_length] at hys
          have hyl : ys.length = rows.length := by rw [forall2_len hys, List.length_map]
          have hyl2 : ys.length ≤ 1000 := by omega
          have hbig : g'.NoLimit := T'.nolimit
          obtain ⟨tl, htl⟩ : ∃ tl, tl = (D2, LCg.lst ys) :: (led2 ++ (L' + 1, o3) :: news) := ⟨_, rfl⟩
          have N8 := news_sub (news := (L' + 1 + 1 + 1, o1) :: (L' + 1 + 1, o2) :: tl) N7 (fun p hp => by
            rw [htl] at hp
            simp only [List.mem_cons, List.mem_append] at hp
            rw [hnb]
            simp only [List.mem_cons, List.mem_append]
            rcases hp with h | h | h | h | h | h <;> simp [h])
          have mtl : ∀ p ∈ news, p ∈ tl := fun p hp => by rw [htl]; exact .tail _ (List.mem_append_right _ (.tail _ hp))
          have mtr := mtl _ hm2
          have mtt := mtl _ hm1
          have mt3 : (L' + 1, o3) ∈ tl := by rw [htl]; exact .tail _ (List.mem_append_right _ (.head _))
          have mtD : (D2, listOf ys.toArray ys.length) ∈ tl := by rw [htl]; exact .head _
          have hyt : All2 (PairIn ((L' + 1 + 1 + 1, o1) :: (L' + 1 + 1, o2) :: tl)) ys (rows.map (·.i)) := hys.imp fun a b h => h.mono fun p hp => by rw [htl]; exact .tail _ (.tail _ (.tail _ (List.mem_append_left _ hp)))
          have ot1 : ∀ p ∈ tl, @Ne Nat p.1 (L' + 1 + 1 + 1) := fun p hp => by
            rw [htl] at hp
            rcases List.mem_cons.mp hp with rfl | hp
            · exact fun e => oD2 (L' + 1 + 1 + 1, o1) (List.mem_append_right _ (by rw [hnb]; exact .head _)) e.symm
            · rcases List.mem_append.mp hp with hp | hp
              · exact fun e => hap p hp (L' + 1 + 1 + 1, o1) (by rw [hnb]; exact .head _) e.symm
              · rcases List.mem_cons.mp hp with rfl | hp
                · exact ne2
                · have := hl1 p hp; omega
          have ot2 : ∀ p ∈ tl, @Ne Nat p.1 (L' + 1 + 1) := fun p hp => by
            rw [htl] at hp
            rcases List.mem_cons.mp hp with rfl | hp
            · exact fun e => oD2 (L' + 1 + 1, o2) (List.mem_append_right _ (by rw [hnb]; exact .tail _ (.head _))) e.symm
            · rcases List.mem_append.mp hp with hp | hp
              · exact fun e => hap p hp (L' + 1 + 1, o2) (by rw [hnb]; exact .tail _ (.head _)) e.symm
              · rcases List.mem_cons.mp hp with rfl | hp
                · exact ne1
                · have := hl1 p hp; omega
          clear htl N7 hys hap oD2
          k_steps
          · exact ret false _ _ ⟨fun e => (nomatch e), fun e => absurd e (nl_dup (by assumption) (by assumption) (by assumption))⟩ (by k_asm) (news_sub (by assumption) fun p hp => .tail _ (.tail _ (.tail _ (mtl p hp))))
          · rename_i tk8 nl lo8 hd8 hn1 hn2 hlt8 hnlt tkq l0 h0 l0lt l1 h1 l1lt l2 h2' l2lt l3 h3 l3lt l4 h4 l4lt h5 o1' lF N9 d1'
            have hnd : (rows.map fun x => x.i).Nodup := hn2.mp (by rw [List.length_map] at hn1 ⊢; omega)
            obtain ⟨nr, N10, hnr2, hnr, hnr3⟩ := apart_one (c := L' + 1 + 1) (o := o2) N9 (by k_mem)
            have q4 := hnr (l4, _) (by k_mem) (by show @Ne Nat l4 _; omega)
            have q3 := hnr (l3, _) (by k_mem) (by show @Ne Nat l3 _; omega)
            have q2 := hnr (l2, _) (by k_mem) (by show @Ne Nat l2 _; omega)
            have q1 := hnr (l1, _) (by k_mem) (by show @Ne Nat l1 _; omega)
            have q0 := hnr (l0, _) (by k_mem) (by show @Ne Nat l0 _; omega)
            have qc := hnr (L' + 1 + 1 + 1, o1') (by k_mem) (by show @Ne Nat (L' + 1 + 1 + 1) _; omega)
            have qt : ∀ p ∈ tl, p ∈ nr := fun p hp => hnr p (by k_mem) (ot2 p hp)
            have qn : ∀ p ∈ news, p ∈ nr := fun p hp => qt p (mtl p hp)
            have qr := qn _ hm2
            clear N9 ot1 ot2 hyt mtD mtl mt3 mtr mtt
            refine loopT (LotJ (L' + 1 + 1) nr rows) rfl (News.isList N10 (.tail _ qr)) (N10 _ (.tail _ qr)).2.1 lF N10 ⟨o2, none, rfl, d2, by simp⟩ ?_ ?_
            · rintro i v m₁ news₁ own I oI h tk hv ⟨o2', v₀, rfl, hd2, hok⟩ hoff hown hI F1 N1
              obtain ⟨r2, hr2, x2, t1', t2', t3', t4', nn, rfl, hx2⟩ := forall2_get hrows (i := i) (a := v) (by simpa using hv)
              obtain ⟨led, N2, hl2, hl3, hl4⟩ := apart_one (c := L' + 1 + 1) (o := o2') N1 (List.mem_append_right _ (.head _))
              have hlo : ∀ p ∈ own, p ∈ led := fun p hp => hl3 p (List.mem_append_left _ hp) (by
                rcases hown p hp with e | e
                · rw [e]; exact (hoff _ (.head _)).symm
                · rw [e]; exact hnr2 _ qr)
              have hln : ∀ p ∈ nr, p ∈ led := fun p hp => hl3 p (List.mem_append_right _ (.tail _ hp)) (hnr2 p hp)
              replace q4 := hln _ q4
              replace q3 := hln _ q3
              replace q2 := hln _ q2
              replace q1 := hln _ q1
              replace q0 := hln _ q0
              replace qc := hln _ qc
              have hx3 := hln _ (qn _ hx2)
              clear N1 N10
              k_steps
              rename_i tkR tR uR vR hR FR NR KR
              dsimp only at hR ⊢
              refine LCt.CompSrcT.range (n := 4) (by rfl) FR NR hR (by decide) (by decide) (by rw [sizeLine_eq]; decide) fun g => compT (ColJ r2 _) ⟨rfl, [], .nil, by simp⟩ ?_ ?_
              · rintro j ys2 news2 v2 I2 oI2 C oC D3 m₂ h6 tk6 E' hj ⟨t6, rfl⟩ ⟨rfl, bs, hbs, hz⟩ hC hx F3 N3 off ne
                clear FR NR KR
                rcases (by omega : j = 0 ∨ j = 1 ∨ j = 2 ∨ j = 3) with rfl | rfl | rfl | rfl
                · replace hx : m₂ (Str.ofString "at") = some (.int 0 t6) := hx
                  k_steps
                  all_goals first | exact comp_end F3 N3 (fun p hp => hp) (off3_of off) trivial (col_t hbs (by simp only [colOk]; omega)) | exact comp_end F3 N3 (fun p hp => hp) (off3_of off) trivial (col_f hbs hz (by simp only [colOk]; omega))
                · replace hx : m₂ (Str.ofString "at") = some (.int 1 t6) := hx
                  k_steps
                  all_goals first | exact comp_end F3 N3 (fun p hp => hp) (off3_of off) trivial (col_t hbs (by simp only [colOk]; omega)) | exact comp_end F3 N3 (fun p hp => hp) (off3_of off) trivial (col_f hbs hz (by simp only [colOk]; omega))
                · replace hx : m₂ (Str.ofString "at") = some (.int 2 t6) := hx
                  k_steps
                  all_goals first | exact comp_end F3 N3 (fun p hp => hp) (off3_of off) trivial (col_t hbs (by simp only [colOk]; omega)) | exact comp_end F3 N3 (fun p hp => hp) (off3_of off) trivial (col_f hbs hz (by simp only [colOk]; omega))
                · replace hx : m₂ (Str.ofString "at") = some (.int 3 t6) := hx
                  k_steps
                  all_goals first | exact comp_end F3 N3 (fun p hp => hp) (off3_of off) trivial (col_t hbs (by simp only [colOk]; omega)) | exact comp_end F3 N3 (fun p hp => hp) (off3_of off) trivial (col_f hbs hz (by simp only [colOk]; omega))
              · rintro ys2 news2 ⟨rfl, bs, hbs, hz⟩
                unfold LCg.FinE
                intro D3 h6 tk6 F4 N4 o4
                clear FR NR KR o4
                k_steps
                · have hnn : bs = [] := by with_reducible assumption
                  refine TEnd.intro (news' := (L' + 1 + 1, _) :: nr) (by assumption) (by assumption) ?_ ?_ ⟨_, _, rfl, by with_reducible assumption, ?_⟩
                  · intro p hp
                    rcases List.mem_append.mp hp with hp | hp
                    · exact .tail _ (.tail _ (.tail _ (hlo p hp)))
                    · rcases List.mem_cons.mp hp with rfl | hp
                      · exact .tail _ (.tail _ (.head _))
                      · exact .tail _ (.tail _ (.tail _ (hln p hp)))
                  · intro q hq
                    rcases List.mem_cons.mp hq with rfl | hq
                    · exact hoff (L' + 1 + 1, o2') (.head _)
                    · exact hoff q (.tail _ hq)
                  · intro r' hr'
                    rw [take_succ_get hr2] at hr'
                    rcases List.mem_append.mp hr' with h | h
                    · exact hok r' h
                    · rw [List.mem_singleton.mp h]; exact col_ok.mp (hz.mp hnn)
                · refine ret false _ _ ⟨fun e => (nomatch e), fun e => absurd (hz.mpr (col_ok.mpr (e.2.2.2.2.1 r2 (List.mem_of_getElem? hr2)))) (by with_reducible assumption)⟩ (by k_asm) (news_sub (by assumption) fun p hp => .tail _ (.tail _ (.tail _ (hln p (qn p hp)))))
            · rintro m₁ news₁ h tk ⟨o2', v₀, rfl, hd2, hok⟩ F1 N1
              rw [hvz, List.take_length] at hok
              have hhe : 1 ≤ hei ∧ hei < 65536 := by with_reducible assumption
              have hpr : prec ∈ r.ps := by with_reducible assumption
              k_steps
              exact ret true _ _ ⟨fun _ => ⟨⟨r, hr', hkn, hpr⟩, by omega, by omega, by omega, hok, hnd⟩, fun _ => rfl⟩ (by k_asm) (news_sub (by assumption) fun p hp => .tail _ (qn p hp))
      all_goals refine ret false _ _ ⟨fun e => (nomatch e), fun e => ?_⟩ (by k_asm) (news_sub (by assumption) fun p hp => .tail _ (.tail _ (mN p hp)))
      all_goals first | exact absurd e (nl_prec hr' hkn (by assumption)) | (have z1 := e.2.1; have z2 := e.2.2.1; have z3 := e.2.2.2.1; omega)

end
end
section
open PySem PySem.Calls PySem.W PyProof.Rows
/-- where the walk is to stop -/
def Stop (P : Prop) : Prop := P
theorem stopAt {P : Prop} (h : Stop P) : P := h
theorem idx_here {ns : List Int} {i : Nat} {x : Int} (h : ns[i]? = some x) (hn : x ∉ ns.take i) : ns.idxOf x = i ∧ x ∈ ns := by
  have hi : i < ns.length := by
    rcases Nat.lt_or_ge i ns.length with h1 | h1
    · exact h1
    · rw [List.getElem?_eq_none h1] at h; cases h
  have e : ns = ns.take i ++ x :: ns.drop (i + 1) := by
    have h2 : ns[i] = x := by rw [List.getElem?_eq_getElem hi] at h; exact Option.some.inj h
    rw [← h2, List.getElem_cons_drop, List.take_append_drop]
  refine ⟨?_, List.mem_of_getElem? h⟩
  have h3 : (ns.take i).length = i := by rw [List.length_take]; omega
  calc ns.idxOf x = (ns.take i ++ x :: ns.drop (i + 1)).idxOf x := by rw [← e]
    _ = i := by rw [List.idxOf_append, if_neg hn, List.idxOf_cons_self, h3]; omega
theorem nin_succ {ns : List Int} {i : Nat} {x y : Int} (h : ns[i]? = some y) (hn : x ∉ ns.take i) (hy : y ≠ x) : x ∉ ns.take (i + 1) := by
  rw [List.take_add_one, h]
  simp only [Option.toList_some, List.mem_append, List.mem_singleton, not_or]
  exact ⟨hn, fun e => hy e.symm⟩
/-- between the turns of place_of -/
def PlaceJ (fx : Addr) (ident : Int) (it : Tok) (rows : List Row4) (news : List (Addr × Obj)) (i : Nat) (m₁ : Str → Option Value) (news₁ : List (Addr × Obj)) : Prop :=
  news₁ = news ∧ m₁ (Str.ofString "frame") = some (.ref fx) ∧ m₁ (Str.ofString "ident") = some (.int ident it) ∧ ident ∉ (rows.map (·.i)).take i
section
variable {prog : Program} {w : World} {p : Program} {loose : List Str} {mean : ExcName → Option Value} {mg mb : Str → Option Value}
    {dp un : Nat} {gd : Option (List Code)} {cn : Str} {cs : Scope} {a : Addr} {ccd : Value} {cl : List (Str × Addr)} {outer : List Env} {A₀ : Around} {base h₀ : Heap} {L : Addr} {m : Str → Option Value} {s : Shared} {Q E : Value → Shared → Prop}
local macro_rules | `(tactic| k_all) => `(tactic| with_reducible assumption)
local macro_rules | `(tactic| k_mem) => `(tactic| first | with_reducible assumption | exact List.mem_cons_self | (refine' List.mem_cons_of_mem _ ?_; k_mem))

local macro_rules | `(tactic| walk_at "TPost") => `(tactic| (dsimp only [TPost]))
local macro_rules | `(tactic| walk_at "eval Name") => `(tactic| (k_here; k_dflt (refine' ld ?k1 ?k2 ?_; (case k1 => k_asm); (case k2 => first | exact rfl | assumption); k_whole)))
local macro_rules | `(tactic| walk_at "call builtin:len") => `(tactic| (k_here; (with_reducible show wpAny _ _ (call (Value.builtin "len") [Value.ref _]) _ _ _); k_dflt (refine' len_list (News.isList ?N ?q) ?h ?_; (case N => k_asm); (case q => k_mem); (case h => assumption); k_whole)))
theorem item_nat {value slice : PySem.Expr} {l : Addr} {vs : List Value} {i : Nat} {u : Tok} {x : Value}
    (hl : s.heap.IsList l vs.toArray) (hi : i < 1000) (hx : vs[i]? = some x) (h : Q x s)
    (hs : subscripted slice false (.ref l) (.int (i : Int) u) = operate [.ref l, .int (i : Int) u] (getItem (.ref l) (.int (i : Int) u))) :
    wpAny (model prog w) A₀ (subscriptTail value slice (.ref l) (.int (i : Int) u)) Q E s :=
  tail_any hl.typeIs slot_list_getitem.lookup (wpAny_getItem_list hl (by omega) (by omega) (by simpa using hx) h) hs
local macro_rules | `(tactic| walk_at "subscriptTail") => `(tactic| (k_here; (with_reducible show wpAny _ _ (subscriptTail _ _ (Value.ref _) (Value.int _ _)) _ _ _); k_dflt (refine' item_nat (News.isList ?N ?q) ?h1 ?h3 ?_ ?h4; (case N => k_asm); (case q => k_mem); (case h1 => with_reducible assumption); (case h3 => with_reducible assumption); (case h4 => with_reducible first | exact subsc_const | exact subsc_binop | exact subsc_call | exact subsc_name); k_whole)))
theorem place_spec {fx : Addr} {kind : Str} {prec hei wid ident : Int} {it : Tok} {rows : List Row4} {news : List (Addr × Obj)}
    (B : Below A₀ base outer h₀) (F : Fr h₀ L s.heap m) (X : (Kc w.params).In h₀) (T : Top p loose mean mg mb h₀) (hk : cs.kind = .function)
    (N : News h₀ L s.heap news) (hT : FrameIn news fx kind prec hei wid rows) (hlen : rows.length ≤ 1000)
    (hdp : dp + 6 < recursionLimit) (hun : un + 80 < cLine)
    (found : ident ∈ rows.map (·.i) → ∀ t h' tk', Fr h₀ L h' m → News h₀ L h' news → Q (.int ((rows.map (·.i)).idxOf ident : Nat) t) { s with heap := h', toks := tk' })
    (none : ident ∉ rows.map (·.i) → ∀ h' tk', Fr h₀ L h' m → News h₀ L h' news → Q .none { s with heap := h', toks := tk' }) :
    wpAny (model prog w) (ktrTop dp un gd cn cs L a ccd cl outer) (call (.ref 195) [.ref fx, .int ident it]) Q E s := by
  have hfill : (fun (_ : OpenLaw) (_ : Params → Frag) => True) PySem.Challenge.rw_nz0245_01 Kc := by k_fill; trivial
  clear hfill
  obtain ⟨fdx, cl', h1, h2, h3, h4, h5, h6, k1, k2, k3, k4, k5, k6, t1, t2, t3, t4, t6, n, n1, n2, comps, hm1, hm2, hm3, hcs⟩ := hT
  obtain ⟨vs, rfl⟩ : ∃ vs, comps = List.toArray vs := ⟨comps.toList, by simp⟩
  have hvl : vs.length = rows.length := forall2_len hcs
  have hvz : vs.toArray.size = rows.length := by simpa using hvl
  have hfit : ((vs.toArray.size : Nat) : Int) < 2 ^ 63 := by omega
  refine wpAny_call ?_
  k_dflt cell_enter
  k_steps
  rename_i hh tkA tA uA vA hR hF hN hK
  refine loopR (n := rows.length) (PlaceJ fx ident it rows news) rfl hR (by first | rfl | (rw [hvz]) | omega) (by omega) hF hN ⟨rfl, rfl, rfl, by simp⟩ ?_ ?_
  · rintro i t m₁ news₁ I oI h tk hi ⟨rfl, hj1, hj2, hj3⟩ hoff F1 N1
    obtain ⟨v, hv⟩ : ∃ v, vs[i]? = some v := ⟨vs[i]'(by omega), List.getElem?_eq_getElem (by omega)⟩
    obtain ⟨r, hr, x, dx, e1, e2, e3, e4, e5, e6, e7, e8, e9, e10, e11, e12, e13, rfl, hcx, hcd⟩ := forall2_get hcs hv
    have hi3 : i < 1000 := by omega
    have hri : (rows.map (·.i))[i]? = some r.i := by rw [List.getElem?_map, hr]; rfl
    k_steps
    · have e9 : r.i = ident := by with_reducible assumption
      rw [e9] at hri
      obtain ⟨g1, g2⟩ := idx_here hri hj3
      rw [← g1]
      exact found g2 _ _ _ (by k_asm) (news_sub (by assumption) fun p hp => .tail _ hp)
    · exact TEnd.intro (news' := news₁) F1 N1 (fun p hp => hp) hoff ⟨rfl, hj1, hj2, nin_succ hri hj3 (by with_reducible assumption)⟩
  · rintro m₁ news₁ h tk ⟨rfl, hj1, hj2, hj3⟩ F1 N1
    rw [List.take_of_length_le (by simp)] at hj3
    k_steps
    exact none hj3 _ _ (by k_asm) (by assumption)
end
end
section
open PySem PySem.Calls PySem.W PyProof.Rows
/-- the idents made so far -/
def IdJ (rows : List Row4) (news : List (Addr × Obj)) (i : Nat) (ys : List Value) (news₁ : List (Addr × Obj)) : Prop :=
  news₁ = news ∧ IntsAre ys ((rows.take i).map (·.i))
theorem ints_small {ns : List Int} : ∀ d ∈ ns.map PyData.int, True := fun _ _ => trivial
section
variable {prog : Program} {w : World} {A : Around} {E : Value → Shared → Prop} {s : Shared} {h₀ : Heap} {L : Addr} {m : Str → Option Value} {news : List (Addr × Obj)} {Q : Value → Shared → Prop}
theorem isInt_get {vs : List Value} {ns : List Int} (h : IntsAre vs ns) (k : Int) : ∀ (j : Nat) (h1 : j < vs.length) (h2 : j < ns.length), isInt k vs[j] = decide (ns[j] = k) := by
  induction h with
  | nil => intro j h1; exact absurd h1 (Nat.not_lt_zero _)
  | cons x t _ ih =>
    intro j h1 h2
    cases j with
    | zero => show isInt k (.int x t) = decide (x = k); simp only [isInt]; by_cases e : x = k <;> simp [e]
    | succ j => exact ih j (by simpa using h1) (by simpa using h2)
theorem index_ints {l : Addr} {vs : List Value} {ns : List Int} {k : Int} {t : Tok} {n : Nat} (N : News h₀ L s.heap news) (hm : (l, listOf vs.toArray n) ∈ news) (hi : IntsAre vs ns) (hn : ns.length ≤ 1000) (hk : k ∈ ns) (h : Q (.int (ns.idxOf k : Nat) s.toks) { s with toks := s.toks + 1 }) :
    wpAny (model prog w) A (call (.builtin "list.index") [.ref l, .int k t]) Q E s := by
  have ho := (N _ hm).1
  have hlen := hi.length
  have hj : ns.idxOf k < ns.length := List.idxOf_lt_length_iff.mpr hk
  refine call_meets PySem.F.slot_list_index ⟨_, ho, rfl⟩ PySem.F.entry_list_index (PySem.F.args_list_index_2 _ _)
    (PySem.SeqAt.list_indexAt l vs.toArray n none #[] (.int k t) (isInt k) (ns.idxOf k) (by simpa [hlen] using hj) (by omega) ?_ ?_) ⟨ho, fun y hy => (eq_isInt k t hi y (by simpa using hy)).at _ _, h⟩
  · show isInt k vs[ns.idxOf k] = true
    rw [isInt_get hi k _ (by omega) hj]
    simpa using List.getElem_idxOf hj
  · intro j hjs hlt
    show isInt k vs[j] = false
    rw [isInt_get hi k j (by simpa using hjs) (by omega)]
    exact ne_of_lt_idxOf hlt _
theorem ne_same {k : Int} {t u : Tok} (h : Q (.bool false) s) : wpAny (model prog w) A (compareOp .NotEq (.int k t) (.int k u)) Q E s := PyProof.Rows.ne_int (by simpa using h)
theorem in_yes {px : Addr} {pvs : List Value} {ps : List Int} {k : Int} {t : Tok} {n : Nat} (N : News h₀ L s.heap news) (mp : (px, listOf pvs.toArray n) ∈ news) (hi : IntsAre pvs ps) (hu : A.units + 64 < cLine)
    (hk : k ∈ ps) (h : Q (.bool true) s) : wpAny (model prog w) A (compareOp .In (.int k t) (.ref px)) Q E s := isIn_ints N mp hi hu (fun _ => h) fun z => absurd hk z
theorem in_no {px : Addr} {pvs : List Value} {ps : List Int} {k : Int} {t : Tok} {n : Nat} (N : News h₀ L s.heap news) (mp : (px, listOf pvs.toArray n) ∈ news) (hi : IntsAre pvs ps) (hu : A.units + 64 < cLine)
    (hk : k ∉ ps) (h : Q (.bool false) s) : wpAny (model prog w) A (compareOp .In (.int k t) (.ref px)) Q E s := isIn_ints N mp hi hu (fun z => absurd z hk) fun _ => h
end
theorem arr_ints {vs : List Value} {i : Nat} {v : Value} (h : vs.toArray[i]? = some v) (hi : ∀ u ∈ vs, ∃ x t, u = .int x t) : ∃ x t, v = .int x t := hi v (List.mem_of_getElem? (i := i) (by simpa using h))
/-- between the turns -/
def RightJ (fx D : Addr) (news : List (Addr × Obj)) (_ : Nat) (m₁ : Str → Option Value) (news₁ : List (Addr × Obj)) : Prop :=
  news₁ = news ∧ m₁ (Str.ofString "frame") = some (.ref fx) ∧ m₁ (Str.ofString "idents") = some (.ref D)
theorem FrameIn.mono {news news' : List (Addr × Obj)} {fx : Addr} {kind : Str} {prec hei wid : Int} {rows : List Row4} (h : FrameIn news fx kind prec hei wid rows) (hs : ∀ p ∈ news, p ∈ news') : FrameIn news' fx kind prec hei wid rows := by
  obtain ⟨fdx, cl', h1, h2, h3, h4, h5, h6, k1, k2, k3, k4, k5, k6, t1, t2, t3, t4, t6, n, n1, n2, comps, a, b, c, d⟩ := h
  exact ⟨fdx, cl', h1, h2, h3, h4, h5, h6, k1, k2, k3, k4, k5, k6, t1, t2, t3, t4, t6, n, n1, n2, comps, hs _ a, hs _ b, hs _ c, d.imp fun x y z => z.mono hs⟩
section
variable {prog : Program} {w : World} {p : Program} {loose : List Str} {mean : ExcName → Option Value} {mg mb : Str → Option Value}
    {dp un : Nat} {gd : Option (List Code)} {cn : Str} {cs : Scope} {a : Addr} {ccd : Value} {cl : List (Str × Addr)} {outer : List Env} {A₀ : Around} {base h₀ : Heap} {L : Addr} {m : Str → Option Value} {s : Shared} {Q E : Value → Shared → Prop}
local macro_rules | `(tactic| k_all) => `(tactic| with_reducible assumption)
local macro_rules | `(tactic| k_mem) => `(tactic| first | with_reducible assumption | exact List.mem_cons_self | (refine' List.mem_cons_of_mem _ ?_; k_mem))
local macro_rules | `(tactic| walk_at "subscriptTail") => `(tactic| (k_here; (with_reducible show wpAny _ _ (subscriptTail _ _ (Value.ref _) (Value.int _ _)) _ _ _); k_dflt (refine' item_at (News.isList ?N ?q) ?h1 ?h2 ?h3 ?_ ?h4; (case N => k_asm); (case q => k_mem); (case h1 => decide); (case h2 => decide); (case h3 => exact rfl); (case h4 => with_reducible first | exact subsc_const | exact subsc_binop | exact subsc_call | exact subsc_name); k_whole)))

local macro_rules | `(tactic| walk_at "TPost") => `(tactic| (dsimp only [TPost]))
local macro_rules | `(tactic| walk_at "exec Assign cons ListComp") => `(tactic| (k_here; k_dflt (refine LCg.Assign_ListComp_U (F₀ := by k_asm) (by rfl) (by with_unfolding_all rfl) (by rfl) (by decide) (by rfl) (by decide) (by rfl) (by rfl) (by rfl) ?_)))
local macro_rules | `(tactic| walk_at "eval Name") => `(tactic| (k_here; k_dflt (refine' ld ?k1 ?k2 ?_; (case k1 => k_asm); (case k2 => first | exact rfl | assumption); k_whole)))
local macro_rules | `(tactic| walk_at "exec For Name List cons nil") => `(tactic| (k_here; (rename Fr _ _ _ _ => lF'); (with_unfolding_all refine' For_turns lF' ?_; k_whole)))
local macro_rules | `(tactic| walk_at "pyIter ref") => `(tactic| (k_here; (with_reducible show wpAny _ _ (pyIter (Value.ref _)) _ _ _); with_reducible refine stopAt ?_))
local macro_rules | `(tactic| walk_at "compareOp NotEq int int") => `(tactic| (k_here; with_reducible refine ne_same ?_))
local macro_rules | `(tactic| walk_at "compareOp In int ref") => `(tactic| (k_here; k_dflt (first | (refine' in_yes ?N ?a ?i ?u ?m ?_; (case m => with_reducible assumption); (case N => k_asm); (case a => k_mem); (case i => assumption); (case u => ktr_units)) | (refine' in_no ?N ?a ?i ?u ?m ?_; (case m => with_reducible assumption); (case N => k_asm); (case a => k_mem); (case i => assumption); (case u => ktr_units)))))
local macro_rules | `(tactic| walk_at "call builtin:list.index") => `(tactic| (k_here; (with_reducible show wpAny _ _ (call (Value.builtin _) [Value.ref _, Value.int _ _]) _ _ _); k_dflt (refine' index_ints ?N ?a ?i ?z ?m ?_; (case N => k_asm); (case a => k_mem); (case i => assumption); (case z => with_reducible assumption); (case m => with_reducible assumption))))
local macro_rules | `(tactic| walk_at "call ref") => `(tactic| (k_here; k_dflt (refine' place_spec ?k1 ?k2 ?k3 ?k4 ?k5 ?k6 ?k7 ?k8 ?k12 ?k13 ?_ ?_; (case k1 => k_asm); (case k2 => k_asm); (case k3 => k_asm); (case k4 => k_asm); (case k5 => first | exact rfl | assumption); (case k6 => k_asm); (case k7 => assumption); (case k8 => assumption); (case k12 => ktr_room); (case k13 => ktr_units)); intro hP' t' h' tk' F' N'; (try dsimp only); (try k_fold)))
theorem places_spec {fx ta : Addr} {kind : Str} {prec hei wid : Int} {kind2 : Str} {prec2 hei2 wid2 : Int} {rows : List Row4} {news : List (Addr × Obj)}
    (B : Below A₀ base outer h₀) (F : Fr h₀ L s.heap m) (X : (Kc w.params).In h₀) (T : Top p loose mean mg mb h₀) (hk : cs.kind = .function)
    (N : News h₀ L s.heap news) (hT : FrameIn news fx kind prec hei wid rows) (hTo : ToldAt news ta kind2 prec2 hei2 wid2 rows) (hlen : rows.length ≤ 1000)
    (hdp : dp + 9 < recursionLimit) (hun : un + 300 < cLine)
    (ret : ∀ h' tk', Fr h₀ L h' m → News h₀ L h' news → Q (.bool true) { s with heap := h', toks := tk' }) :
    wpAny (model prog w) (ktrTop dp un gd cn cs L a ccd cl outer) (call (.ref 264) [.ref fx, .ref ta]) Q E s := by
  have hfill : (fun (_ : OpenLaw) (_ : Params → Frag) => True) PySem.Challenge.rw_nz0245_01 Kc := by k_fill; trivial
  clear hfill
  obtain ⟨rl, t1, t2, t3, t4, n1, vs, n2, hm1, hm2, hrows⟩ := hTo
  have hvl : vs.length = rows.length := forall2_len hrows
  refine wpAny_call ?_
  k_dflt cell_enter
  k_steps
  rename_i g' L' h' FG F1 N1 B1 X1 T1
  refine LCg.CompSrc.ledger (by rfl) F1 N1 hm2 (by rw [List.size_toArray, sizeLine_eq]; omega) fun g9 => compL (IdJ rows news) ⟨rfl, .nil⟩ ?_ ?_
  · rintro i ys news₁ v I oI C oC D m₂ h tk E' hv ⟨rfl, hys⟩ hC hx F2 N2 off ne
    obtain ⟨r, hr, x, t1, t2, t3, t4, n, rfl, hmx⟩ := forall2_get hrows hv
    k_steps
    exact comp_end F2 N2 (fun p hp => hp) (off3_of off) (.inr ⟨_, hm2, rfl, _, rfl⟩) ⟨rfl, by rw [take_succ_get hr, List.map_append]; exact ints_snoc hys⟩
  · rintro ys news' ⟨rfl, hys⟩
    unfold LCg.FinA
    intro D h tk F2 N2 o1
    rw [hvl, List.take_length] at hys
    have oD := off1_ne o1
    clear o1
    have hyn : (rows.map (·.i)).length ≤ 1000 := by simpa using hlen
    k_steps
    rename_i l9 h9 F9 N9 l9lt
    refine loopT (RightJ fx D _) rfl (News.isList N9 (.head _)) (N9 _ (.head _)).2.1 F9 N9 ⟨rfl, rfl, rfl⟩ ?_ ?_
    · rintro i v m₁ news₁ own I oI h tk hv ⟨hnw, hj1, hj2⟩ hoff hown hI F3 N3
      obtain ⟨x9, t9, rfl⟩ := arr_ints hv (by intro u hu; simp only [List.mem_cons, List.not_mem_nil, or_false] at hu; rcases hu with rfl | rfl | rfl | rfl | rfl | rfl <;> exact ⟨_, _, rfl⟩)
      have hFr := hT.mono (news' := own ++ news₁) (fun p hp => by rw [hnw]; exact List.mem_append_right _ (.tail _ (.tail _ hp)))
      have hD9 : (D, listOf ys.toArray ys.length) ∈ own ++ news₁ := by rw [hnw]; exact List.mem_append_right _ (.tail _ (.head _))
      clear N9
      k_steps
      all_goals (refine TEnd.intro (news' := news₁) (by assumption) (by assumption) (fun p hp => hp) hoff ?_; exact ⟨hnw, hj1, hj2⟩)
    · rintro m₁ news₁ h tk ⟨rfl, hj1, hj2⟩ F3 N3
      k_steps
      exact ret _ _ (by k_asm) (news_sub (by assumption) fun p hp => .tail _ (.tail _ hp))
end
end
section
open PySem PySem.Calls PySem.W PyProof.Rows
/-- the table of a code, before or behind its one lambda -/
def TabHas (P : Addr) (pos : Pos) (qual : Str) (c : Addr) (led : List (Addr × Obj)) : Prop :=
  ∃ oc vs t, led = [(P, tabObj #[rawInt pos.line, rawInt pos.col, .ref c]), (c, oc)] ∧ oc.data = .fields vs ∧ vs[1]? = some (.str qual t)
def TabOk (P : Addr) (pos : Pos) (qual : Str) (led : List (Addr × Obj)) : Prop := led = [(P, tabObj #[])] ∨ ∃ c, TabHas P pos qual c led
/-- what was apart from led is apart from led' -/
def Keeps (led led' all : List (Addr × Obj)) : Prop := ∀ x : Addr, (∃ q ∈ all, q.1 = x) → (∀ p ∈ led, p.1 ≠ x) → ∀ p ∈ led', p.1 ≠ x
section
variable {M : Model} {A : Around} {E : Value → Shared → Prop} {s : Shared} {h₀ : Heap} {L a c P : Addr} {m mg mb : Str → Option Value} {cn : Str} {cs : Scope} {ccd : Value} {cl : List (Str × Addr)} {news led : List (Addr × Obj)}
  {p : Program} {loose : List Str} {mean : ExcName → Option Value} {name qual : Str} {params : Arguments} {body : Expr} {scope : Scope} {pos : Pos} {firstLine : Nat} {clos : List (Str × Addr)}
theorem lam_tab {Q : Value → Shared → Prop} (F : Fr h₀ L s.heap m) (T : Top p loose mean mg mb h₀) (C : CodeHd h₀ c P) (hcd : ccd = .ref c) (N : News h₀ L s.heap (led ++ news)) (hT : TabOk P pos qual led) (hne : ∀ p ∈ news, p.1 ≠ P)
    (hcl : closureFor scope (envX cn cs L a ccd cl) = pure clos)
    (h : ∀ f c' ctv led' h' tk, Fr h₀ L h' m → News h₀ L h' ((f, kla_obj name qual params body scope clos ((mg "__name__").getD .none) c' ctv) :: (led' ++ news)) → TabHas P pos qual c' led' → (∀ q ∈ news, q.1 < f) → Keeps led led' (led ++ news) → Q (.ref f) { s with heap := h', toks := tk }) :
    wpAny M A (makeFunction name qual params (.expr body) scope (envX cn cs L a ccd cl) [] [] [] pos firstLine) Q E s := by
  rcases hT with rfl | ⟨c', oc, vs, t, rfl, hd, hv⟩
  · refine kla_nest F N T C hcd (UpdF.head (r := news) hne) (by trivial) (by rfl) hcl fun f c' oc vs t ctv h' tk F' N' hd hv l1 l2 => ?_
    refine h f c' ctv [_, _] h' tk F' (news_sub N' ?_) ⟨oc, vs, t, rfl, hd, hv⟩ (fun q hq => Nat.lt_trans (l1 q (.tail _ hq)) l2) ?_
    rotate_left
    · rintro x ⟨q, hq, rfl⟩ hx p hp
      rcases List.mem_cons.mp hp with rfl | hp
      · exact hx (P, tabObj #[]) (.head _)
      · rw [List.mem_singleton.mp hp]
        exact Nat.ne_of_gt (l1 q hq)
    intro q hq
    simp only [List.cons_append, List.nil_append, List.mem_cons] at hq ⊢
    rcases hq with h | h | h | h
    · exact .inl h
    · exact .inr (.inr (.inl h))
    · exact .inr (.inl h)
    · exact .inr (.inr (.inr h))
  · refine kla_hit F N T C hcd (c' := c') (.head _) (by simp [TriplesOk, rawInt]) (by simp [codeAmong, rawInt]) hcl fun f ctv h' tk F' N' l1 => ?_
    exact h f c' ctv [_, _] h' tk F' N' ⟨oc, vs, t, rfl, hd, hv⟩ (fun q hq => l1 q (.tail _ (.tail _ hq))) fun x _ hx => hx
end
theorem TabHas.ok {P : Addr} {pos : Pos} {qual : Str} {c : Addr} {led : List (Addr × Obj)} (h : TabHas P pos qual c led) : TabOk P pos qual led := .inr ⟨c, h⟩
theorem TabHas.rec' {P c L : Addr} {pos : Pos} {qual : Str} {led news : List (Addr × Obj)} {h₀ h : Heap} (hT : TabHas P pos qual c led) (N : News h₀ L h news) (hs : ∀ p ∈ led, p ∈ news) : h.CodeRec (.ref c) qual := by
  obtain ⟨oc, vs, t, rfl, hd, hv⟩ := hT
  exact codeRec_news N (hs _ (.tail _ (.head _))) hd hv
section
variable {prog : Program} {w : World} {A A₀ : Around} {E : Value → Shared → Prop} {s : Shared} {K : Frag} {L : Addr} {h₀ base : Heap} {m mg mb : Str → Option Value} {news : List (Addr × Obj)} {p : Program} {loose : List Str} {mean : ExcName → Option Value}
/-- a def with cells entered: what comes back is said by the caller -/
theorem call_rawC {env : Env} {outer : List Env} {R : Result → Shared → Prop} {name qual : Str} {params : Arguments} {body : List Stmt} {scope : Scope} {dV kV doc pm cdv ct oc : Value} {an od : Option Addr} {osl : Array (Option Value)} {f : Addr} {args : Args} {binds : List (Str × Value)}
    (B : Below A₀ base outer h₀) (F : Fr h₀ L s.heap m) (X₀ : K.In h₀) (N : News h₀ L s.heap news) (T : Top p loose mean mg mb h₀) (hA : A.frames = some (env :: outer)) (hf : env.frame = some L) (hke : env.scope.kind = .function)
    (ho : K.lookup f = some ⟨oc, od, .func (fnOf name qual params body scope dV kV doc pm an cdv ct), osl⟩) (hcd : codeIn K cdv qual = true) (hroom : A.depth < recursionLimit)
    (hbind : BindsTo s (fnOf name qual params body scope dV kV doc pm an cdv ct) args binds) (hkind : (binds.all fun y => scope.names.lookup y.1 == some .local || scope.names.lookup y.1 == some .cell) = true)
    (hnd : ((cellsFrom 0 scope.names []).map (·.1)).Nodup)
    (h : ∀ g L' h₁ tk cells, Fr h₀ L g m → Fr g L' h₁ (bindL (envOfC qual scope L' f cdv).kindOf binds fun _ => none) → News g L' h₁ (cells ++ news) →
      CellsAre (bindC (envOfC qual scope L' f cdv).kindOf binds fun _ => none) (cellsFrom (L' + 1) scope.names []) cells → Below A base (env :: outer) g → K.In g → Top p loose mean mg mb g → (∀ p ∈ news, p.1 < L') →
      wpAny (model prog w) (A.deeper (envOfC qual scope L' f cdv)) (execs body (envOfC qual scope L' f cdv))
        (fun fl s' => R (.ok (.ret (match fl with | .ret v => v | _ => .none))) s')
        (fun e s' => wpAny (model prog w) (A.deeper (envOfC qual scope L' f cdv)) (leaving (envOfC qual scope L' f cdv) e) (fun _ s'' => R (.error e) s'') (fun e' s'' => R (.error e') s'') s')
        { s with heap := h₁, toks := tk })
    (hco : scope.isCoroutine = false) (hgen : scope.isGenerator = false) (hk : scope.kind = .function) : codeAny (model prog w) A (.call (.ref f) args) R s := by
  obtain ⟨FG, BG, st, lv⟩ := groundX (R := R) B F N hA hf hke
  have X := X₀.keeps F.keep
  refine codeAny_call_function hroom (X _ _ ho) rfl hco hgen rfl (codeRec_of X hcd) (hbind _ _ _ _ ?_)
  refine wpAny_newFunctionEnv_cells hk (kindsX hkind _) fun env' he s' x => ?_
  subst he
  refine ⟨(T.nolimit.keeps F.keep).keeps x.toInCall.keep, codeAny_func ?_⟩
  obtain ⟨h₁, tk, rfl, _⟩ := x.done
  have hk₁ := x.toInCall.keep
  obtain ⟨cells, NC, Y⟩ := Cl.news (h₀ := s.heap) (Nat.le_refl _) fun n c hm => ⟨x.cell n c (lookup_of_mem_nodup (cellsFrom_names scope.names 0 (s.heap.objs.size + 1) [] [] rfl ▸ hnd) hm), x.above n c hm⟩
  refine h _ s.heap.objs.size h₁ tk cells FG ⟨x.toInCall.ns, fun b o e => hk₁ b o (of_hideAll _ e), Nat.le_of_eq (hideAll_size _ _)⟩ (fun p hp => ?_) Y BG (X₀.keeps st) (T.keeps st) (fun p hp => Heap.lt_size (N p hp).1)
  rcases List.mem_append.mp hp with hp | hp
  · refine ⟨(NC p hp).1, (NC p hp).2.1, ?_⟩
    cases q : (hideAll s.heap (news.map (·.1))).get? p.1 with
    | none => rfl
    | some o => have := of_hideAll _ q; rw [(NC p hp).2.2] at this; cases this
  · exact ⟨hk₁ _ _ (N p hp).1, Nat.ne_of_lt (Heap.lt_size (N p hp).1), hideAll_none _ (List.mem_map_of_mem hp)⟩
/-- back from a def that has caught something, in the outermost frame -/
theorem back_base {A : Around} {env : List Env} {g g2 h : Heap} {L' : Addr} {m' : Str → Option Value} {news' : List (Addr × Obj)} (FG : Fr h₀ L g m) (B2 : Below A h₀ env g2) (up : g.UpToSlots g2) (F' : Fr g2 L' h m') (N' : News g2 L' h news') : Fr h₀ L h m ∧ News h₀ L h news' := by
  obtain ⟨oL, es, ep, hL, r⟩ := up.ns FG.ns
  refine ⟨⟨⟨oL, es, ep, F'.keep L oL hL, r⟩, fun b o e => F'.keep b o (B2.stays b o e), FG.above⟩, fun q hq => ⟨(N' q hq).1, fun e => ?_, ?_⟩⟩
  · have := (N' q hq).2.2
    rw [e, hL] at this; cases this
  · cases z : h₀.get? q.1 with
    | none => rfl
    | some o => have := (N' q hq).2.2; rw [B2.stays _ _ z] at this; cases this
/-- the frame below is the base itself -/
theorem back_same {g2 h : Heap} {news' : List (Addr × Obj)} {env : List Env} {A : Around} (hL : h₀.objs.size ≤ L) (B2 : Below A h₀ env g2) (F' : Fr g2 L h m) (N' : News g2 L h news') : Fr h₀ L h m ∧ News h₀ L h news' := by
  refine ⟨⟨F'.ns, fun b o e => F'.keep b o (B2.stays b o e), hL⟩, fun q hq => ⟨(N' q hq).1, (N' q hq).2.1, ?_⟩⟩
  cases z : h₀.get? q.1 with
  | none => rfl
  | some o => have := (N' q hq).2.2; rw [B2.stays _ _ z] at this; cases this
end
end
section
open PySem PySem.Calls PySem.W PyProof.Rows
theorem kRows_code : ∀ r ∈ kRows, ∀ r' ∈ kRows, r.code = r'.code → r = r' := by
  intro r hr r' hr' h
  simp only [kRows, List.mem_cons, List.not_mem_nil, or_false] at hr hr'
  rcases hr with rfl | rfl | rfl | rfl | rfl | rfl <;> rcases hr' with rfl | rfl | rfl | rfl | rfl | rfl <;> first | rfl | (exact absurd h (by decide +kernel))
section
variable {prog : Program} {w : World} {p : Program} {loose : List Str} {mean : ExcName → Option Value} {mg mb : Str → Option Value}
    {dp un : Nat} {gd : Option (List Code)} {cn : Str} {cs : Scope} {a : Addr} {ccd : Value} {cl : List (Str × Addr)} {outer : List Env} {A₀ : Around} {base h₀ : Heap} {L : Addr} {m : Str → Option Value} {s : Shared} {Q E : Value → Shared → Prop}

theorem kc_same {r : KRow} {tk : Tok} {news : List (Addr × Obj)} (hr : r ∈ kRows)
    (B : Below A₀ base outer h₀) (F : Fr h₀ L s.heap m) (X : (Kc w.params).In h₀) (T : Top p loose mean mg mb h₀) (hk : cs.kind = .function)
    (N : News h₀ L s.heap news)
    (hdp : dp + 3 < recursionLimit) (hun : un + 40 < cLine)
    (ok : ∀ h' tk', Fr h₀ L h' m → News h₀ L h' news → ∀ tk, Q (.str r.name tk) { s with heap := h', toks := tk' }) :
    wpAny (model prog w) (ktrTop dp un gd cn cs L a ccd cl outer) (call (.ref 174) [.int r.code tk]) Q E s :=
  kc_spec B F X T hk N hdp hun (fun r' hr' e => by have := kRows_code r hr r' hr' e; subst this; exact ok) fun hb => absurd rfl (hb r hr)
theorem kr_same {r : KRow} {tk : Tok} {news : List (Addr × Obj)} (hr : r ∈ kRows)
    (B : Below A₀ base outer h₀) (F : Fr h₀ L s.heap m) (X : (Kc w.params).In h₀) (T : Top p loose mean mg mb h₀) (hk : cs.kind = .function)
    (N : News h₀ L s.heap news)
    (hdp : dp + 3 < recursionLimit) (hun : un + 40 < cLine)
    (ok : ∀ h' tk', Fr h₀ L h' m → News h₀ L h' news → Q (.ref r.row) { s with heap := h', toks := tk' }) :
    wpAny (model prog w) (ktrTop dp un gd cn cs L a ccd cl outer) (call (.ref 167) [.str r.name tk]) Q E s :=
  kr_spec B F X T hk N (kRows_nm r hr).1 hdp hun (fun r' hr' e => by have := kRows_name r hr r' hr' e; subst this; exact ok) fun hb => absurd rfl (hb r hr)
end
section
variable {prog : Program} {w : World} {A : Around} {E : Value → Shared → Prop} {s : Shared} {Q : Value → Shared → Prop}
theorem ne_str_same {k : Str} {t u : Tok} (h : Q (.bool false) s) : wpAny (model prog w) A (compareOp .NotEq (.str k t) (.str k u)) Q E s := by
  refine ne_str ?_
  simpa using h
end
end
section
open PySem PySem.Calls PySem.W PyProof.Rows
section
variable {prog : Program} {w : World} {A : Around} {E : Value → Shared → Prop} {s : Shared} {h₀ : Heap} {L : Addr} {m : Str → Option Value} {news : List (Addr × Obj)}
theorem sliceApplied_two {sl : Addr} {u : Tok} {Q : Int × Int × Nat → Shared → Prop} (hs : s.heap.IsSliceOf sl .none (.int 2 u) .none) (h : Q ((0 : Int), 1, 2) s) :
    wpAny (model prog w) A (Builtin.Slice.sliceApplied (.ref sl) (pure (3 : Int))) Q E s := by
  obtain ⟨os, hos, hcs, hds⟩ := id hs
  unfold Builtin.Slice.sliceApplied Builtin.Slice.sliceFields
  refine wpAny_bind (wpAny_bind (wpAny_field hos hds (x := .none) rfl (wpAny_bind (wpAny_field hos hds (x := .int 2 u) rfl (wpAny_bind (wpAny_field hos hds (x := .none) rfl (wpAny_pure ?_)))))))
  refine wpAny_bind (slicePart_none ?_)
  show wpAny _ _ (if ((1 : Int) == 0) = true then _ else _) _ _ s
  rw [if_neg (by decide)]
  refine wpAny_bind (slicePart_none (wpAny_bind (slicePart_int (wpAny_bind (wpAny_pure ?_)))))
  exact wpAny_pure h
theorem getItem_two {t sl : Addr} {a b c : Value} {u : Tok} {Q : Value → Shared → Prop} (ht : IsTup s.heap t #[a, b, c]) (hs : s.heap.IsSliceOf sl .none (.int 2 u) .none)
    (h : Q (.ref s.heap.objs.size) { s with heap := s.heap.push { cls := .type "tuple", data := .seq #[a, b] } }) : wpAny (model prog w) A (getItem (.ref t) (.ref sl)) Q E s := by
  obtain ⟨os, hos, hcs, hds⟩ := id hs
  have hTs : s.TypeIs (.ref sl) "slice" := ⟨os, hos, hcs⟩
  unfold getItem
  try with_reducible refine wpAny_holding ?_
  first | refine wpAny_bind (wpAny_pure ?_) | skip
  refine wpAny_bind (wpAny_sequenceKey ht.typeIs (by decide) ?_)
  refine wpAny_bind (wpAny_callSpecial?_slot (name := Str.ofString "__getitem__") ht.typeIs slot_tuple_getitem
    (wpAny_call_entry slot_tuple_getitem ht.typeIs entry_tuple_getitem ?_ (args_tuple_getitem _ _)))
  show wpAny _ _ (Builtin.Tuple.tupleItemsOf (.ref t) >>= _) _ _ s
  refine wpAny_bind (tupleItemsOf_ ht ?_)
  refine wpAny_bind (wpAny_typeOf hTs ?_)
  rw [if_pos (by decide)]
  refine wpAny_bind (sliceApplied_two hs ?_)
  have hdrop : sizeOk (.seq #[a, b]) := by show 2 ≤ sizeLine; rw [sizeLine_eq]; omega
  first
    | exact wpAny_bind (m := Builtin.Tuple.tupleExact _) (wpAny_newObj_type (wpAny_pure ⟨_, rfl, wpAny_pure h⟩) hdrop)
    | exact wpAny_bind (m := Builtin.Tuple.tupleExact _) (wpAny_newObj_type (wpAny_bind (wpAny_pure (wpAny_pure ⟨_, rfl, wpAny_pure h⟩))) hdrop)
    | exact wpAny_bind (wpAny_bind (m := Builtin.Tuple.tupleExact _) (wpAny_newObj_type (wpAny_pure (wpAny_pure ⟨_, rfl, wpAny_pure h⟩)) hdrop))
    | exact wpAny_bind (wpAny_bind (m := Builtin.Tuple.tupleExact _) (wpAny_newObj_type (wpAny_pure ⟨_, rfl, wpAny_pure h⟩) hdrop))
/-- the first two of a tuple of three -/
theorem slice_two {value slice : Expr} {t : Addr} {a b c : Value} {u : Tok} {Q : Value → Shared → Prop}
    (F : Fr h₀ L s.heap m) (N : News h₀ L s.heap news) (ht : IsTup h₀ t #[a, b, c])
    (h : ∀ x h', Fr h₀ L h' m → News h₀ L h' ((x, { cls := .type "tuple", data := .seq #[a, b] }) :: news) → (∀ p ∈ news, p.1 < x) → Q (.ref x) { s with heap := h' })
    (hs : subscripted slice false (.ref t) (.ref s.heap.objs.size) = operate [.ref s.heap.objs.size, .ref t] (getItem (.ref t) (.ref s.heap.objs.size)))
    (hg : ∀ r, letTemporaryGo value (.ref t) r = pure ()) :
    wpAny (model prog w) A (subscriptTail value slice (.ref t) (.ref s.heap.objs.size)) Q E { s with heap := s.heap.push { cls := .type "slice", data := .fields #[.none, .int 2 u, .none] } } := by
  have ht' : IsTup (s.heap.push { cls := .type "slice", data := .fields #[.none, .int 2 u, .none] }) t #[a, b, c] := (ht.keeps F.keep).keeps fun _ _ e => Heap.get?_push_of_some _ e
  refine subscriptTail_ops (s := { s with heap := s.heap.push { cls := .type "slice", data := .fields #[.none, .int 2 u, .none] } }) ht'.typeIs slot_tuple_getitem.lookup
    (getItem_two ht' (Heap.IsSliceOf.new ..) ?_) hs hg
  have N1 := News.push (F.push { cls := .type "slice", data := .fields #[.none, .int 2 u, .none] }) (N.grown fun _ _ e => Heap.get?_push_of_some _ e) { cls := .type "tuple", data := .seq #[a, b] }
  refine h _ _ ((F.push _).push _) N1 fun p hp => ?_
  refine Nat.lt_trans (Heap.lt_size (N p hp).1) ?_
  show _ < (s.heap.push _).objs.size
  rw [Heap.size_push]; exact Nat.lt_succ_self _
end
theorem slice_two' {value slice : PySem.Expr} {t : Addr} {a b c : Value} {u : Tok} {Q : Value → Shared → Prop} {h : Heap}
    (F : Fr h₀ L h m) (N : News h₀ L h news) (ht : IsTup h₀ t #[a, b, c]) (s' : Shared) (e : s'.heap = h.push { cls := .type "slice", data := .fields #[.none, .int 2 u, .none] })
    (k : ∀ x h', Fr h₀ L h' m → News h₀ L h' ((x, { cls := .type "tuple", data := .seq #[a, b] }) :: news) → (∀ p ∈ news, p.1 < x) → Q (.ref x) { s' with heap := h' })
    (hs : subscripted slice false (.ref t) (.ref h.objs.size) = operate [.ref h.objs.size, .ref t] (getItem (.ref t) (.ref h.objs.size)))
    (hg : ∀ r, letTemporaryGo value (.ref t) r = pure ()) :
    wpAny (model prog w) A (subscriptTail value slice (.ref t) (.ref h.objs.size)) Q E s' := by
  have e2 : s' = { ({ s' with heap := h } : Shared) with heap := ({ s' with heap := h } : Shared).heap.push { cls := .type "slice", data := .fields #[.none, .int 2 u, .none] } } := by
    cases s'; cases e; rfl
  rw [e2]
  exact slice_two (s := { s' with heap := h }) F N ht k hs hg
open Classical in
theorem ne_two {a b : Addr} {k : Str} {x : Int} {t1 t2 u1 u2 : Tok} {c1 c2 : Nat} {Q : Value → Shared → Prop} (N : News h₀ L s.heap news) (ma : (a, listOf #[.str k t1, .int x t2] c1) ∈ news) (mb : (b, listOf #[.str k u1, .int x u2] c2) ∈ news) (hk : KOk k) (hu : A.units + 64 < cLine) (h : Q (.bool false) s) :
    wpAny (model prog w) A (compareOp .NotEq (.ref a) (.ref b)) Q E s := by
  have ok : ∀ d ∈ [Dat.str k, Dat.int x], kqdOk 8 d = true := by
    intro d hd
    simp only [List.mem_cons, List.not_mem_nil, or_false] at hd
    rcases hd with rfl | rfl
    · unfold kqdOk; exact hk.2
    · unfold kqdOk; rfl
  refine kqd_ne (xs := [_, _]) (ys := [_, _]) (ds := [.str k, .int x]) (es := [.str k, .int x]) N ma rfl rfl (.cons (.str _ _) (.cons (.int _ _) .nil)) (fun _ h => h) mb rfl rfl (.cons (.str _ _) (.cons (.int _ _) .nil)) (fun _ h => h) ok ok hu ?_
  rw [decide_eq_true rfl]; exact h
theorem ne_same_ints {a b : Addr} {pvs qvs : List Value} {ps : List Int} {n k : Nat} {Q : Value → Shared → Prop} (N : News h₀ L s.heap news) (ma : (a, listOf pvs.toArray n) ∈ news) (hi : IntsAre pvs ps) (mb : (b, listOf qvs.toArray k) ∈ news) (hj : IntsAre qvs ps) (hu : A.units + 64 < cLine)
    (h : Q (.bool false) s) : wpAny (model prog w) A (compareOp .NotEq (.ref a) (.ref b)) Q E s := ne_ints N ma hi mb hj hu (fun _ => h) fun e => absurd rfl e
theorem list_tupB {t : Addr} {vs : List Value} {r : KRow} {Q : Value → Shared → Prop} (F : Fr h₀ L s.heap m) (N : News h₀ L s.heap news) (ht : IsTup h₀ t vs.toArray) (hi : IntsAre vs r.ps) (hr : r ∈ kRows)
    (h : ∀ D c h', Fr h₀ L h' m → News h₀ L h' ((D, listOf vs.toArray c) :: news) → (∀ q ∈ news, q.1 < D) → Q (.ref D) { s with heap := h' }) : wpAny (model prog w) A (call (.type "list") [.ref t]) Q E s := by
  refine list_copyKT F N (ht.keeps F.keep) h ?_
  have h1 := hi.length
  have h2 := (kRows_ps r hr).2
  rw [sizeLine_eq, List.size_toArray]
  omega
theorem subsc_slice {x y : Option PySem.Expr} {p : Pos} {a b : Value} : subscripted (.Slice x y none p) false a b = operate [b, a] (getItem a b) := rfl
theorem letgo_name {x : Str} {p : Pos} {a : Value} : ∀ r, letTemporaryGo (.Name x p) a r = pure () := fun _ => rfl
end
section
open PySem PySem.Calls PySem.W PyProof.Rows
abbrev noParams : Arguments := { posonlyargs := [], args := [], vararg := none, kwonlyargs := [], kw_defaults := [], kwarg := none, defaults := [] }
abbrev lamScope (x y : Str) : Scope := { kind := .function, names := [(x, .free), (y, .globalImplicit)], isGenerator := false, isCoroutine := false }

section
variable {M : Model} {A : Around} {E : Value → Shared → Prop} {s' : Shared} {base g g₂ h : Heap} {outer : List Env} {L a e t : Addr} {m : Str → Option Value} {name : Str} {scope : Scope} {cd : Value} {Q : Unit → Shared → Prop} {news : List (Addr × Obj)} {cl : List (Str × Addr)}
theorem leave_onX {cls : Value} {vs : List Value} (K : Below A base outer g) (F : Fr g L g₂ m) (R : RaisedK base (envX name scope L a cd cl :: outer) e cls t vs news s'.heap) (hsm : g₂.UpToSlots s'.heap)
    (hQ : ∀ h', RaisedK base outer e cls t vs news h' → g.UpToSlots h' → Q () { s' with heap := h' }) :
    wpAny M (A.deeper (envX name scope L a cd cl)) (leaving (envX name scope L a cd cl) (.ref e)) Q E s' := by
  obtain ⟨⟨B, hB, hl, hfl, hnew⟩, htup⟩ := R
  exact wpAny_leaves_onW (Around.frames_deeper K.stack) rfl hfl fun h' x1 x2 => hQ h' ⟨⟨B, hB, hl, x1, hnew⟩, htup.of_slots x2⟩ ((Heap.UpToSlots.of_keeps F.keep).trans (hsm.trans x2))
end
section
variable {prog : Program} {w : World} {p : Program} {loose : List Str} {mean : ExcName → Option Value} {mg mb : Str → Option Value}
    {dp un : Nat} {gd : Option (List Code)} {cn : Str} {cs : Scope} {a : Addr} {ccd : Value} {cl : List (Str × Addr)} {outer : List Env} {A₀ : Around} {base h₀ : Heap} {L : Addr} {m : Str → Option Value} {s : Shared} {Q E : Value → Shared → Prop}

theorem cf_in {fx : Addr} {kind : Str} {prec hei wid : Int} {rows : List Row4} {news : List (Addr × Obj)}
    (B : Below A₀ base outer h₀) (F : Fr h₀ L s.heap m) (X : (Kc w.params).In h₀) (T : Top p loose mean mg mb h₀) (hk : cs.kind = .function)
    (N : News h₀ L s.heap news) (hlen : kind.length ≤ 1000) (hT : FrameIn news fx kind prec hei wid rows) (hsz : rows.length ≤ 1000)
    (hdp : dp + 6 < recursionLimit) (hun : un + 80 < cLine)
    (ok : LetBy kind prec hei wid rows → ∀ h' tk', Fr h₀ L h' m → News h₀ L h' news → Q .none { s with heap := h', toks := tk' })
    (bad : ¬ LetBy kind prec hei wid rows → ∀ e t vs g₂ h' tk', Fr h₀ L g₂ m → g₂.UpToSlots h' → RaisedK base (envX cn cs L a ccd cl :: outer) e (.ref 51) t vs news h' → E (.ref e) { s with heap := h', toks := tk' }) :
    wpAny (model prog w) (ktrTop dp un gd cn cs L a ccd cl outer) (call (.ref 188) [.ref fx]) Q E s := by
  obtain ⟨fdx, cl', h1, h2, h3, h4, h5, h6, k1, k2, k3, k4, k5, k6, t1, t2, t3, t4, t6, n, n1, n2, comps, hm1, hm2, hm3, hcs⟩ := hT
  have := forall2_len hcs
  exact cf_spec B F X T hk N hlen hm1 hm2 hm3 (by rw [← Array.length_toList]; omega) hcs hdp hun ok bad
local macro_rules | `(tactic| k_all) => `(tactic| with_reducible assumption)
local macro_rules | `(tactic| k_mem) => `(tactic| first | with_reducible assumption | exact List.mem_cons_self | (refine' List.mem_cons_of_mem _ ?_; k_mem))

local macro_rules | `(tactic| walk_at "leaving ref") => `(tactic| (k_here; (refine' leave_onX ?k1 ?k2 ?k3 ?k4 ?_; (case k3 => assumption); (case k1 => assumption); (case k4 => assumption); (case k2 => assumption); k_whole; intro h' R' U'; (try dsimp only at R' U' ⊢))))
local macro_rules | `(tactic| walk_at "eval Name") => `(tactic| (k_here; k_dflt (refine' nameX_F ?N ?c ?m ?d ?_ ?a ?b; (case a => rfl); (case b => rfl); (case N => k_asm); (case c => rfl); (case m => with_reducible assumption); (case d => with_reducible assumption); k_whole)))
local macro_rules | `(tactic| walk_at "call ref") => `(tactic| (k_here; k_dflt (refine' kc_spec ?k1 ?k2 ?k3 ?k4 ?k5 ?k6 ?k12 ?k13 ?_ ?_; (case k1 => k_asm); (case k2 => k_asm); (case k3 => k_asm); (case k4 => k_asm); (case k5 => first | exact rfl | assumption); (case k6 => k_asm); (case k12 => ktr_room); (case k13 => ktr_units)); intro r' hr' hk' h' tk' F' N' tk2'; (try dsimp only); (try k_fold)))
theorem lamK {f cc c' : Addr} {oc oc' : Obj} {news : List (Addr × Obj)} {code : Int} {ct t : Tok} {pm ctv : Value} {qual : Str} {vs : Array Value} {p1 p2 p3 : Pos}
    (hf : (f, kla_obj "<lambda>" qual noParams (.Call (.Name "kind_of_code" p1) [.Name "code" p2] [] p3) (lamScope "code" "kind_of_code") [("code", cc)] pm c' ctv) ∈ news)
    (hc : (cc, oc) ∈ news) (hdd : oc.data = .cell (some (.int code ct))) (hc' : (c', oc') ∈ news) (hdd' : oc'.data = .fields vs) (hv : vs[1]? = some (.str qual t)) :
    CallC prog w p loose mean mg mb f news (∃ r ∈ kRows, code = r.code) := by
  have hfill : (fun (_ : OpenLaw) (_ : Params → Frag) => True) PySem.Challenge.rw_nz0245_01 Kc := by k_fill; trivial
  clear hfill
  intro dp un gd cn cs a ccd cl outer A₀ base h₀ L m s Q E B F X T hk N hdp hun ok bad
  refine wpAny_call ?_
  k_dflt (refine' kla_code ?k1 ?k2 ?k3 ?k4 ?k5 ?kA ?kF ?kK ?k6 ?k7 ?k8 ?k9 ?kB ?_ ?c2 ?c3 ?c4 ?c5; (case kA => exact rfl); (case kF => exact rfl); (case kK => assumption); (case k1 => k_asm); (case k2 => k_asm); (case k3 => k_asm); (case k4 => k_asm); (case k5 => k_asm); (case k6 => with_reducible assumption); (case k7 => exact codeRec_news (by k_asm) (by with_reducible assumption) (by with_reducible assumption) (by with_reducible assumption)); (case k8 => ktr_room); (case k9 => exact rfl); (case c5 => decide); (case kB => exact locs rfl); (case c2 => exact rfl); (case c3 => exact rfl); (case c4 => exact rfl); k_whole; intro g' L' h' FG' F' N' B' X' T'; (try dsimp only); (try k_fold))
  k_steps
  · exact ok ⟨_, by with_reducible assumption, by with_reducible assumption⟩ _ _ _ (by k_asm) (by k_asm)
  · exact bad (fun ⟨r, h1, h2⟩ => absurd h2 ((by with_reducible assumption : ∀ r ∈ kRows, code ≠ r.code) r h1)) _ _ _ _ _ _ (by assumption) (by assumption) (by assumption)

local macro_rules | `(tactic| walk_at "call ref") => `(tactic| (k_here; k_dflt (refine' cf_in ?k1 ?k2 ?k3 ?k4 ?k5 ?k6 ?k7 ?k8 ?k9 ?k12 ?k13 ?_ ?_; (case k1 => k_asm); (case k2 => k_asm); (case k3 => k_asm); (case k4 => k_asm); (case k5 => first | exact rfl | assumption); (case k6 => k_asm); (case k7 => with_reducible assumption); (case k8 => with_reducible assumption); (case k9 => with_reducible assumption); (case k12 => ktr_room); (case k13 => ktr_units)); intro hP' h' tk' F' N'; (try dsimp only); (try k_fold)))
theorem lamL {f cc c' fx : Addr} {oc oc' : Obj} {news : List (Addr × Obj)} {kind : Str} {prec hei wid : Int} {rows : List Row4} {t : Tok} {pm ctv : Value} {qual : Str} {vs : Array Value} {p1 p2 p3 : Pos}
    (hf : (f, kla_obj "<lambda>" qual noParams (.Call (.Name "check_frame" p1) [.Name "frame" p2] [] p3) (lamScope "frame" "check_frame") [("frame", cc)] pm c' ctv) ∈ news)
    (hc : (cc, oc) ∈ news) (hdd : oc.data = .cell (some (.ref fx))) (hc' : (c', oc') ∈ news) (hdd' : oc'.data = .fields vs) (hv : vs[1]? = some (.str qual t))
    (hT : FrameIn news fx kind prec hei wid rows) (hkl : kind.length ≤ 1000) (hlen : rows.length ≤ 1000) :
    CallC prog w p loose mean mg mb f news (LetBy kind prec hei wid rows) := by
  have hfill : (fun (_ : OpenLaw) (_ : Params → Frag) => True) PySem.Challenge.rw_nz0245_01 Kc := by k_fill; trivial
  clear hfill
  intro dp un gd cn cs a ccd cl outer A₀ base h₀ L m s Q E B F X T hk N hdp hun ok bad
  refine wpAny_call ?_
  k_dflt (refine' kla_code ?k1 ?k2 ?k3 ?k4 ?k5 ?kA ?kF ?kK ?k6 ?k7 ?k8 ?k9 ?kB ?_ ?c2 ?c3 ?c4 ?c5; (case kA => exact rfl); (case kF => exact rfl); (case kK => assumption); (case k1 => k_asm); (case k2 => k_asm); (case k3 => k_asm); (case k4 => k_asm); (case k5 => k_asm); (case k6 => with_reducible assumption); (case k7 => exact codeRec_news (by k_asm) (by with_reducible assumption) (by with_reducible assumption) (by with_reducible assumption)); (case k8 => ktr_room); (case k9 => exact rfl); (case c5 => decide); (case kB => exact locs rfl); (case c2 => exact rfl); (case c3 => exact rfl); (case c4 => exact rfl); k_whole; intro g' L' h' FG' F' N' B' X' T'; (try dsimp only); (try k_fold))
  k_steps
  · exact ok (by with_reducible assumption) _ _ _ (by k_asm) (by k_asm)
  · exact bad (by with_reducible assumption) _ _ _ _ _ _ (by assumption) (by assumption) (by assumption)
end
end
section
open PySem PySem.Calls PySem.W PyProof.Rows
/-- no cell, no table -/
def Solid (o : Obj) : Prop := (∀ v, o.data ≠ .cell v) ∧ (∀ vs, o.data ≠ .fields vs)
theorem solid_list {a : Array Value} {n : Nat} : Solid (listOf a n) := ⟨fun _ e => (nomatch e), fun _ e => (nomatch e)⟩
theorem solid_dict {a : List DictEntry} {n : Nat} : Solid (dictOf a n) := ⟨fun _ e => (nomatch e), fun _ e => (nomatch e)⟩
theorem solid_inst {C d : Addr} : Solid (instObj C d) := ⟨fun _ e => (nomatch e), fun _ e => (nomatch e)⟩
theorem RowIn.only {news news' : List (Addr × Obj)} {v : Value} {r : Row4} (h : RowIn news v r) (hs : ∀ p ∈ news, Solid p.2 → p ∈ news') : RowIn news' v r :=
  let ⟨x, t1, t2, t3, t4, n, e, hm⟩ := h
  ⟨x, t1, t2, t3, t4, n, e, hs _ hm solid_list⟩
theorem ToldAt.only {news news' : List (Addr × Obj)} {ta : Addr} {kind : Str} {prec hei wid : Int} {rows : List Row4} (h : ToldAt news ta kind prec hei wid rows) (hs : ∀ p ∈ news, Solid p.2 → p ∈ news') : ToldAt news' ta kind prec hei wid rows := by
  obtain ⟨rl, t1, t2, t3, t4, n1, vs, n2, a, b, c⟩ := h
  exact ⟨rl, t1, t2, t3, t4, n1, vs, n2, hs _ a solid_list, hs _ b solid_list, c.imp fun _ _ x => x.only hs⟩
theorem ToldAt.mono' {news news' : List (Addr × Obj)} {ta : Addr} {kind : Str} {prec hei wid : Int} {rows : List Row4} (h : ToldAt news ta kind prec hei wid rows) (hs : ∀ p ∈ news, p ∈ news') : ToldAt news' ta kind prec hei wid rows := h.only fun p hp _ => hs p hp
theorem CompIn.only {news news' : List (Addr × Obj)} {v : Value} {r : Row4} (h : CompIn news v r) (hs : ∀ p ∈ news, Solid p.2 → p ∈ news') : CompIn news' v r := by
  obtain ⟨x, dx, h1, h2, h3, h4, k1, k2, k3, k4, t1, t2, t3, t4, n, e, a, b⟩ := h
  exact ⟨x, dx, h1, h2, h3, h4, k1, k2, k3, k4, t1, t2, t3, t4, n, e, hs _ a solid_inst, hs _ b solid_dict⟩
theorem FrameIn.only {news news' : List (Addr × Obj)} {fx : Addr} {kind : Str} {prec hei wid : Int} {rows : List Row4} (h : FrameIn news fx kind prec hei wid rows) (hs : ∀ p ∈ news, Solid p.2 → p ∈ news') : FrameIn news' fx kind prec hei wid rows := by
  obtain ⟨fdx, cl', h1, h2, h3, h4, h5, h6, k1, k2, k3, k4, k5, k6, t1, t2, t3, t4, t6, n, n1, n2, comps, a, b, c, d⟩ := h
  exact ⟨fdx, cl', h1, h2, h3, h4, h5, h6, k1, k2, k3, k4, k5, k6, t1, t2, t3, t4, t6, n, n1, n2, comps, hs _ a solid_inst, hs _ b solid_dict, hs _ c solid_list, d.imp fun _ _ z => z.only hs⟩
section
variable {h₀ h : Heap} {L : Addr} {all led led' : List (Addr × Obj)}
theorem news_same (N : News h₀ L h all) {x : Addr} {o o' : Obj} (h1 : (x, o) ∈ all) (h2 : (x, o') ∈ all) : o = o' := by
  have e := (N _ h1).1.symm.trans (N _ h2).1
  exact Option.some.inj e
theorem TabOk.head {P : Addr} {pos : Pos} {qual : Str} (hT : TabOk P pos qual led) : ∃ ps, (P, tabObj ps) ∈ led ∧ (ps = #[] ∨ ∃ c, ps = #[rawInt pos.line, rawInt pos.col, .ref c]) := by
  rcases hT with rfl | ⟨c, oc, vs, t, rfl, _⟩
  · exact ⟨_, .head _, .inl rfl⟩
  · exact ⟨_, .head _, .inr ⟨c, rfl⟩⟩
theorem tab_apart {P P' : Addr} {pos pos' : Pos} {qual qual' : Str} (hPP : P ≠ P') (N : News h₀ L h all) (hT : TabOk P pos qual led) (hs : ∀ p ∈ led, p ∈ all) (hT' : TabOk P' pos' qual' led') (hs' : ∀ p ∈ led', p ∈ all) : ∀ p ∈ led, p.1 ≠ P' := by
  rcases hT with rfl | ⟨c, oc, vs, t, rfl, hdd, hv⟩
  · intro p hp; rw [List.mem_singleton.mp hp]; exact hPP
  · intro p hp
    rcases List.mem_cons.mp hp with rfl | hp
    · exact hPP
    · rw [List.mem_singleton.mp hp]
      intro e
      subst e
      obtain ⟨ps, hps, hc⟩ := hT'.head
      have := news_same N (hs _ (.tail _ (.head _))) (hs' _ hps)
      subst this
      cases hdd
      rcases hc with rfl | ⟨c2, rfl⟩
      · cases hv
      · cases hv
theorem cell_apart {P cc : Addr} {pos : Pos} {qual : Str} {oc : Obj} {v₀ : Option Value} (N : News h₀ L h all) (hm : (cc, oc) ∈ all) (hdd : oc.data = .cell v₀) (hT : TabOk P pos qual led) (hs : ∀ p ∈ led, p ∈ all) : ∀ p ∈ led, p.1 ≠ cc := by
  have key : ∀ p ∈ led, ∃ vs, p.2.data = .fields vs := by
    rcases hT with rfl | ⟨c, oc, vs, t, rfl, hdd, hv⟩
    · intro p hp; rw [List.mem_singleton.mp hp]; exact ⟨_, rfl⟩
    · intro p hp
      rcases List.mem_cons.mp hp with rfl | hp
      · exact ⟨_, rfl⟩
      · rw [List.mem_singleton.mp hp]; exact ⟨_, hdd⟩
  intro p hp e
  obtain ⟨vs, hvs⟩ := key p hp
  obtain ⟨x, o⟩ := p
  dsimp only at e hvs
  subst e
  rw [news_same N (hs _ hp) hm, hdd] at hvs
  cases hvs
/-- the ledger, laid out anew: the cell, the two tables, the rest -/
theorem split_led {cc P P' : Addr} {oc : Obj} {v₀ : Option Value} {pos pos' : Pos} {qual qual' : Str} (N : News h₀ L h all) (hm : (cc, oc) ∈ all) (hdd : oc.data = .cell v₀) (hT : TabOk P pos qual led) (hs : ∀ p ∈ led, p ∈ all) (hT' : TabOk P' pos' qual' led') (hs' : ∀ p ∈ led', p ∈ all) :
    ∃ nr, News h₀ L h ((cc, oc) :: (led ++ (led' ++ nr))) ∧ (∀ p ∈ nr, p.1 ≠ cc ∧ p.1 ≠ P ∧ p.1 ≠ P') ∧ (∀ p ∈ all, Solid p.2 → p ∈ nr) ∧ (∀ p ∈ all, p.1 ≠ cc → p.1 ≠ P → p.1 ≠ P' → p ∈ nr) := by
  refine ⟨all.filter fun p => decide (p.1 ≠ cc ∧ p.1 ≠ P ∧ p.1 ≠ P'), ?_, ?_, ?_, fun p hp h1 h2 h3 => List.mem_filter.mpr ⟨hp, decide_eq_true ⟨h1, h2, h3⟩⟩⟩
  · refine news_sub N fun p hp => ?_
    rcases List.mem_cons.mp hp with rfl | hp
    · exact hm
    · rcases List.mem_append.mp hp with hp | hp
      · exact hs p hp
      · rcases List.mem_append.mp hp with hp | hp
        · exact hs' p hp
        · exact (List.mem_filter.mp hp).1
  · intro p hp; exact of_decide_eq_true (List.mem_filter.mp hp).2
  · intro p hp hS
    refine List.mem_filter.mpr ⟨hp, decide_eq_true ⟨fun e => ?_, fun e => ?_, fun e => ?_⟩⟩
    · obtain ⟨x, o⟩ := p
      dsimp only at e hS
      subst e
      rw [news_same N hp hm] at hS
      exact hS.1 _ hdd
    · obtain ⟨ps, hps, _⟩ := hT.head
      obtain ⟨x, o⟩ := p
      dsimp only at e hS
      subst e
      rw [news_same N hp (hs _ hps)] at hS
      exact hS.2 _ rfl
    · obtain ⟨ps, hps, _⟩ := hT'.head
      obtain ⟨x, o⟩ := p
      dsimp only at e hS
      subst e
      rw [news_same N hp (hs' _ hps)] at hS
      exact hS.2 _ rfl
end
theorem src_solid {o : Obj} (h : SrcObj o) : Solid o := by
  obtain ⟨x, y, tx, ty, n, rfl, _⟩ := h
  exact solid_list
theorem tab_src {h₀ h : Heap} {L P so : Addr} {pos : Pos} {qual : Str} {o : Obj} {led all : List (Addr × Obj)} (N : News h₀ L h all) (hT : TabOk P pos qual led) (hs : ∀ p ∈ led, p ∈ all) (hm : (so, o) ∈ all) (hS : Solid o) : ∀ p ∈ led, p.1 ≠ so := by
  have key : ∀ p ∈ led, ∃ vs, p.2.data = .fields vs := by
    rcases hT with rfl | ⟨c, oc, vs, t, rfl, hdd, hv⟩
    · intro p hp; rw [List.mem_singleton.mp hp]; exact ⟨_, rfl⟩
    · intro p hp
      rcases List.mem_cons.mp hp with rfl | hp
      · exact ⟨_, rfl⟩
      · rw [List.mem_singleton.mp hp]; exact ⟨_, hdd⟩
  intro p hp e
  obtain ⟨vs, hvs⟩ := key p hp
  obtain ⟨x, o2⟩ := p
  dsimp only at e hvs
  subst e
  rw [news_same N (hs _ hp) hm] at hvs
  exact hS.2 _ hvs
theorem cell_src {h₀ h : Heap} {L cc so : Addr} {o oc : Obj} {v₀ : Option Value} {all : List (Addr × Obj)} (N : News h₀ L h all) (hc : (cc, oc) ∈ all) (hdd : oc.data = .cell v₀) (hm : (so, o) ∈ all) (hS : Solid o) : cc ≠ so := by
  intro e
  subst e
  rw [news_same N hc hm] at hdd
  exact hS.1 _ hdd
section
variable {prog : Program} {w : World} {A : Around} {E : Value → Shared → Prop} {s : Shared} {Q : Value → Shared → Prop}
theorem eq_never {P : Prop} {a b : Bool} (h1 : a = true ↔ ¬ P) (h2 : b = true ↔ P) (h : Q (.bool false) s) : wpAny (model prog w) A (compareOp .Eq (.bool a) (.bool b)) Q E s := by
  refine eq_bool ?_
  have e : (a == b) = false := by
    by_cases hp : P
    · have := h2.mpr hp
      subst this
      cases a with
      | true => exact absurd hp (h1.mp rfl)
      | false => rfl
    · have := h1.mpr hp
      subst this
      cases b with
      | true => exact absurd (h2.mp rfl) hp
      | false => rfl
  rw [e]; exact h
end
theorem parts_law {many size : Int} (h0 : 0 ≤ many) (h1 : 1 ≤ size) : many ≤ (many + size - 1).fdiv size * size ∧ ((many + size - 1).fdiv size - 1) * size < many := by
  rw [Int.fdiv_eq_ediv_of_nonneg _ (by omega)]
  have e := Int.mul_ediv_add_emod (many + size - 1) size
  have h2 := Int.emod_nonneg (many + size - 1) (show size ≠ 0 by omega)
  have h3 := Int.emod_lt_of_pos (many + size - 1) (show 0 < size by omega)
  generalize (many + size - 1) / size = q at *
  rw [Int.mul_comm q size, Int.mul_comm (q - 1) size, Int.mul_sub]
  generalize size * q = z at *
  omega
theorem parts_range {many size : Int} (h0 : 0 ≤ many) (h1 : 1 ≤ size) (h2 : many < 90) : 0 ≤ (many + size - 1).fdiv size ∧ (many + size - 1).fdiv size ≤ 1000 := by
  refine ⟨fd_nn (by omega) (by omega), ?_⟩
  have := (parts_law h0 h1).2
  generalize (many + size - 1).fdiv size = q at *
  rcases Int.lt_or_le 1000 q with h | h
  · have h4 : 1000 * 1 ≤ (q - 1) * size := Int.mul_le_mul (by omega) h1 (by decide) (by omega)
    omega
  · exact h
section
variable {prog : Program} {w : World} {p : Program} {loose : List Str} {mean : ExcName → Option Value} {mg mb : Str → Option Value}
    {dp un : Nat} {gd : Option (List Code)} {cn : Str} {cs : Scope} {a : Addr} {ccd : Value} {cl : List (Str × Addr)} {outer : List Env} {A₀ : Around} {base h₀ : Heap} {L : Addr} {m : Str → Option Value} {s : Shared} {Q E : Value → Shared → Prop}

theorem refused0 {fo : Addr} {fd : FuncData} {P : Prop} {news : List (Addr × Obj)}
    (B : Below A₀ h₀ outer h₀) (F : Fr h₀ L s.heap m) (X : (Kc w.params).In h₀) (T : Top p loose mean mg mb h₀) (hk : cs.kind = .function)
    (N : News h₀ L s.heap news) (hfo : (fo, ({ cls := .type "function", data := .func fd } : Obj)) ∈ news) (hC : CallC prog w p loose mean mg mb fo news P)
    (hdp : dp + 14 < recursionLimit) (hun : un + 160 < cLine)
    (ret : ∀ b h' tk', (b = true ↔ ¬ P) → Fr h₀ L h' m → News h₀ L h' news → Q (.bool b) { s with heap := h', toks := tk' }) :
    wpAny (model prog w) (ktrTop dp un gd cn cs L a ccd cl outer) (call (.ref 259) [.ref fo]) Q E s :=
  refused_spec B F X T X T F.above hk N hfo hC hdp hun fun b h₀' h' tk' hb B' _ _ F' N' _ => by
    obtain ⟨F2, N2⟩ := back_same F.above B' F' N'
    exact ret b h' tk' hb F2 N2
theorem parts_spec {many size : Int} {t1 t2 : Tok} {news : List (Addr × Obj)}
    (B : Below A₀ base outer h₀) (F : Fr h₀ L s.heap m) (X : (Kc w.params).In h₀) (T : Top p loose mean mg mb h₀) (hk : cs.kind = .function)
    (N : News h₀ L s.heap news) (h0 : 0 ≤ many) (h90 : many < 90) (h1 : 1 ≤ size) (h12 : size ≤ 12)
    (hdp : dp + 3 < recursionLimit) (hun : un + 40 < cLine)
    (ret : ∀ h' tk' t, Fr h₀ L h' m → News h₀ L h' news → Q (.int ((many + size - 1).fdiv size) t) { s with heap := h', toks := tk' }) :
    wpAny (model prog w) (ktrTop dp un gd cn cs L a ccd cl outer) (call (.ref 73) [.int many t1, .int size t2]) Q E s := by
  have hfill : (fun (_ : OpenLaw) (_ : Params → Frag) => True) PySem.Challenge.rw_nz0245_01 Kc := by k_fill; trivial
  clear hfill

  refine wpAny_call ?_
  k_dflt cell_enter
  k_steps
  all_goals exact ret _ _ _ (by k_asm) (by k_asm)
end
end
section
open PySem PySem.Calls PySem.W PyProof.Rows
abbrev kPos : Pos := { line := 168, col := 27, endLine := 168, endCol := 53 }
/-- the codes told so far -/
def CodeJ (nw : List (Addr × Obj)) (i : Nat) (ys : List Value) (news₁ : List (Addr × Obj)) : Prop := news₁ = nw ∧ IntsAre ys ((kRows.take i).map (·.code))
theorem codes_mem {k : Int} : k ∈ kRows.map (·.code) ↔ ∃ r ∈ kRows, k = r.code := by
  constructor
  · intro h; obtain ⟨r, hr, e⟩ := List.mem_map.mp h; exact ⟨r, hr, e.symm⟩
  · rintro ⟨r, hr, rfl⟩; exact List.mem_map_of_mem hr
abbrev kQual : Str := Str.ofString "_law_kinds_right" ++ Str.ofString ".<locals>." ++ Str.ofString "<lambda>"
section
variable {prog : Program} {w : World} {p : Program} {loose : List Str} {mean : ExcName → Option Value} {mg mb : Str → Option Value}
    {dp un : Nat} {gd : Option (List Code)} {cn : Str} {cs : Scope} {a : Addr} {ccd : Value} {cl : List (Str × Addr)} {outer : List Env} {A₀ : Around} {base h₀ : Heap} {L : Addr} {m : Str → Option Value} {s : Shared} {Q E : Value → Shared → Prop}
local macro_rules | `(tactic| k_all) => `(tactic| with_reducible assumption)
local macro_rules | `(tactic| k_mem) => `(tactic| first | with_reducible assumption | exact List.mem_cons_self | (refine' List.mem_cons_of_mem _ ?_; k_mem))

local macro_rules | `(tactic| walk_at "exec For Tuple Call cons nil") => `(tactic| (k_here; (rename Fr _ _ _ _ => lF'); (with_unfolding_all refine' For_turns lF' ?_; k_whole)))
local macro_rules | `(tactic| walk_at "pyIter ref") => `(tactic| (k_here; (with_reducible show wpAny _ _ (pyIter (Value.ref _)) _ _ _); with_reducible refine stopAt ?_))
local macro_rules | `(tactic| walk_at "eval Lambda") => `(tactic| (k_here; with_reducible refine stopAt ?_))
local macro_rules | `(tactic| walk_at "call ref") => `(tactic| (k_here; k_dflt (refine' tab_spec ?k1 ?k2 ?k3 ?k4 ?k5 ?k6 ?k12 ?k13 ?_; (case k1 => k_asm); (case k2 => k_asm); (case k3 => k_asm); (case k4 => k_asm); (case k5 => first | exact rfl | assumption); (case k6 => k_asm); (case k12 => ktr_room); (case k13 => ktr_units)); intro tb' vs' n' led' h' tk' F' N' hT' hA'; (try dsimp only); (try k_fold)))

local macro_rules | `(tactic| walk_at "call ref") => `(tactic| (k_here; k_dflt (refine' kc_same ?k0 ?k1 ?k2 ?k3 ?k4 ?k5 ?k6 ?k12 ?k13 ?_; (case k0 => with_reducible assumption); (case k1 => k_asm); (case k2 => k_asm); (case k3 => k_asm); (case k4 => k_asm); (case k5 => first | exact rfl | assumption); (case k6 => k_asm); (case k12 => ktr_room); (case k13 => ktr_units)); intro h' tk' F' N' tk2'; (try dsimp only); (try k_fold)))
local macro_rules | `(tactic| walk_at "call ref") => `(tactic| (k_here; k_dflt (refine' kr_same ?k0 ?k1 ?k2 ?k3 ?k4 ?k5 ?k6 ?k12 ?k13 ?_; (case k0 => with_reducible assumption); (case k1 => k_asm); (case k2 => k_asm); (case k3 => k_asm); (case k4 => k_asm); (case k5 => first | exact rfl | assumption); (case k6 => k_asm); (case k12 => ktr_room); (case k13 => ktr_units)); intro h' tk' F' N'; (try dsimp only); (try k_fold)))
local macro_rules | `(tactic| walk_at "compareOp NotEq str str") => `(tactic| (k_here; with_reducible refine ne_str_same ?_))
local macro_rules | `(tactic| walk_at "TPost") => `(tactic| (dsimp only [TPost]))
local macro_rules | `(tactic| walk_at "subscriptTail") => `(tactic| (k_here; (with_reducible show wpAny _ _ (subscriptTail _ _ (Value.ref _) (Value.int _ _)) _ _ _); k_dflt (refine' item_at (News.isList ?N ?q) ?h1 ?h2 ?h3 ?_ ?h4; (case N => k_asm); (case q => k_mem); (case h1 => decide); (case h2 => decide); (case h3 => exact rfl); (case h4 => with_reducible first | exact subsc_const | exact subsc_binop | exact subsc_call | exact subsc_name); k_whole)))
local macro_rules | `(tactic| walk_at "eval ListComp") => `(tactic| (k_here; (fail_if_success lct_look); k_dflt (refine LCg.ListComp_U (F₀ := by k_asm) (by with_unfolding_all rfl) (by decide) (by rfl) (by decide) (by rfl) ?_)))

local macro_rules | `(tactic| walk_at "subscriptTail") => `(tactic| (k_here; (with_reducible show wpAny _ _ (subscriptTail _ _ (Value.ref _) (Value.ref _)) _ _ _); k_dflt (refine' slice_two' ?F ?N ?T _ ?e ?_ ?s ?g; (case e => exact rfl); (case F => k_asm); (case N => k_asm); (case T => with_reducible assumption); (case s => with_reducible exact subsc_slice); (case g => with_reducible exact letgo_name)); intro x' h' F' N' l1; (try k_lt l1); (try dsimp only); (try k_fold)))

local macro_rules | `(tactic| walk_at "compareOp NotEq ref ref") => `(tactic| (k_here; k_dflt (refine' ne_two ?N ?a ?b ?k ?u ?_; (case N => k_asm); (case a => k_mem); (case b => k_mem); (case k => exact kRows_nm _ (by with_reducible assumption)); (case u => ktr_units))))
local macro_rules | `(tactic| walk_at "compareOp NotEq ref ref") => `(tactic| (k_here; k_dflt (refine' ne_same_ints ?N ?a ?i ?b ?j ?u ?_; (case N => k_asm); (case a => k_mem); (case b => k_mem); (case i => with_reducible assumption); (case j => with_reducible assumption); (case u => ktr_units))))

local macro_rules | `(tactic| walk_at "call type:list") => `(tactic| (k_here; (with_reducible show wpAny _ _ (call (Value.type _) [Value.ref _]) _ _ _); k_dflt (refine' list_tupB ?F ?N ?b ?i ?r ?_; (case F => k_asm); (case N => k_asm); (case b => with_reducible assumption); (case i => with_reducible assumption); (case r => with_reducible assumption)); intro D' c' h' F' N' l1; (try k_lt l1)))

local macro_rules | `(tactic| walk_at "compareOp NotIn int ref") => `(tactic| (k_here; k_dflt (refine' notIn_ints ?N ?a ?i ?u ?_ ?_; (case N => k_asm); (case a => k_mem); (case i => assumption); (case u => ktr_units)); intro hn'; (try dsimp only)))
theorem kinds_spec {code : Int} {ct : Tok} {led rest : List (Addr × Obj)}
    (B : Below A₀ h₀ outer h₀) (F : Fr h₀ L s.heap m) (X : (Kc w.params).In h₀) (T : Top p loose mean mg mb h₀) (hk : cs.kind = .function) (C : CodeHd h₀ 268 266)
    (N : News h₀ L s.heap (led ++ rest)) (hT : TabOk 266 kPos kQual led) (hne : ∀ p ∈ rest, p.1 ≠ 266)
    (hdp : dp + 20 < recursionLimit) (hun : un + 300 < cLine)
    (ret : ∀ led' h' tk', Fr h₀ L h' m → News h₀ L h' (led' ++ rest) → TabOk 266 kPos kQual led' → Keeps led led' (led ++ rest) → Q (.bool true) { s with heap := h', toks := tk' }) :
    wpAny (model prog w) (ktrTop dp un gd cn cs L a ccd cl outer) (call (.ref 269) [.int code ct]) Q E s := by
  have hfill : (fun (_ : OpenLaw) (_ : Params → Frag) => True) PySem.Challenge.rw_nz0245_01 Kc := by k_fill; trivial
  clear hfill

  refine wpAny_call ?_
  k_dflt (refine' call_rawC ?k1 ?k2 ?k3 ?k4 ?k5 ?kA ?kF ?kK ?k6 ?k7 ?k8 ?k9 ?kB ?kD ?_ ?c2 ?c3 ?c4; (case kA => exact rfl); (case kF => exact rfl); (case kK => assumption); (case k1 => k_asm); (case k2 => k_asm); (case k3 => k_asm); (case k4 => k_asm); (case k5 => k_asm); (case k6 => k_is); (case k7 => k_is); (case k8 => ktr_room); (case k9 => exact BindsTo.of_eq rfl); (case kB => exact rfl); (case kD => decide +kernel); (case c2 => exact rfl); (case c3 => exact rfl); (case c4 => exact rfl); k_whole; intro g' L' h' tk' cells' FG' F' N' Y' B' X' T' l1; (try k_lt l1); k_cells Y'; (try simp only [List.cons_append, List.nil_append] at N'); (try dsimp only); (try k_lift B'); (try k_fold))
  rename_i o1 d1
  replace d1 : o1.data = Data.cell (some (.int code ct)) := d1
  replace F' : Fr g' L' h' (fun _ => none) := F'
  have hl1 : ∀ p ∈ led ++ rest, @LT.lt Nat _ p.1 L' := l1
  k_steps
  rename_i tb tvs tn led2 h2 tk2 F2 N2 hT2 hA2
  obtain ⟨nw, hnw⟩ : ∃ nw, nw = (tb, listOf tvs tn) :: (led2 ++ (L' + 1, o1) :: (led ++ rest)) := ⟨_, rfl⟩
  have hsz6 : tvs.size = 6 := by
    have := forall2_len hT2
    rw [Array.length_toList] at this
    exact this
  have mT : (tb, listOf tvs tn) ∈ nw := by rw [hnw]; exact .head _
  have mL : ∀ p ∈ led2, p ∈ nw := fun p hp => by rw [hnw]; exact .tail _ (List.mem_append_left _ hp)
  have N2' : News g' L' h2 nw := by rw [hnw]; exact N2
  clear N2 hA2
  refine loopT (fun _ _ news₁ => news₁ = nw) rfl (News.isList N2' mT) (N2' _ mT).2.1 F2 N2' rfl ?_ ?_
  · clear hnw
    rintro i v m₁ news₁ own I oI h tk hi rfl hoff hown hI F3 N3
    obtain ⟨r, hr, x, px, u1, u2, pvs, q1, q2, rfl, hmx, hmp, hI⟩ := forall2_get hT2 (i := i) (a := v) (by simpa using hi)
    have mx := mL _ hmx
    have mp := mL _ hmp
    have hr' : r ∈ kRows := List.mem_of_getElem? hr
    obtain ⟨t1', t2', tvs', hT1', hT2', hI'⟩ := kRow_tup X' hr'
    replace mx := List.mem_append_right own mx
    replace mp := List.mem_append_right own mp
    clear hT2 mL mT
    k_steps
    exact TEnd.intro (news' := news₁) (by assumption) (by assumption) (fun p hp => .tail _ (.tail _ (.tail _ (.tail _ hp)))) hoff rfl
  · rintro m₁ news₁ h tk rfl F3 N3
    have h266 : @LT.lt Nat _ 266 L' := by
      rcases hT with rfl | ⟨c, oc, vs, t, rfl, _⟩
      · exact hl1 (266, _) (.head _)
      · exact hl1 (266, _) (.head _)
    have N9 : News g' L' h (led ++ ((L' + 1, o1) :: rest)) := news_sub N3 fun p hp => by
      rw [hnw]
      rcases List.mem_append.mp hp with hp | hp
      · exact .tail _ (List.mem_append_right _ (.tail _ (List.mem_append_left _ hp)))
      · rcases List.mem_cons.mp hp with rfl | hp
        · exact .tail _ (List.mem_append_right _ (.head _))
        · exact .tail _ (List.mem_append_right _ (.tail _ (List.mem_append_right _ hp)))
    clear hnw mT mL N3 N2' hT2
    k_steps
    unfold Stop
    refine kla_eval rfl ?_
    have hne9 : ∀ p ∈ (L' + 1, o1) :: rest, p.1 ≠ 266 := fun p hp => by
      rcases List.mem_cons.mp hp with rfl | hp
      · show @Ne Nat (L' + 1) 266; omega
      · exact hne p hp
    refine lam_tab (pos := kPos) (qual := kQual) F3 T' (C.keeps B'.stays) rfl N9 hT hne9 rfl fun f c' ctv led' h8 tk8 F8 N8 hT8 l8 k8 => ?_
    obtain ⟨oc8, vs8, t8, he8, hd8, hv8⟩ := id hT8
    obtain ⟨nw8, hnw8⟩ : ∃ nw8, nw8 = (f, kla_obj "<lambda>" kQual noParams (.Call (.Name "kind_of_code" { line := 168, col := 35, endLine := 168, endCol := 47 }) [.Name "code" { line := 168, col := 48, endLine := 168, endCol := 52 }] [] { line := 168, col := 35, endLine := 168, endCol := 53 }) (lamScope "code" "kind_of_code") [("code", L' + 1)] ((mg "__name__").getD .none) c' ctv) :: (led' ++ (L' + 1, o1) :: rest) := ⟨_, rfl⟩
    replace N8 : News g' L' h8 nw8 := by rw [hnw8]; exact N8
    have hC : CallC prog w p loose mean mg mb f nw8 (∃ r ∈ kRows, code = r.code) := lamK (f := f) (cc := L' + 1) (c' := c') (oc := o1) (oc' := oc8) (ct := ct) (t := t8) (vs := vs8) (qual := kQual) (by rw [hnw8]; exact .head _) (by rw [hnw8]; exact .tail _ (List.mem_append_right _ (.head _))) d1 (by rw [hnw8, he8]; exact .tail _ (.tail _ (.head _))) hd8 hv8
    have mf8 : (f, kla_obj "<lambda>" kQual noParams (.Call (.Name "kind_of_code" { line := 168, col := 35, endLine := 168, endCol := 47 }) [.Name "code" { line := 168, col := 48, endLine := 168, endCol := 52 }] [] { line := 168, col := 35, endLine := 168, endCol := 53 }) (lamScope "code" "kind_of_code") [("code", L' + 1)] ((mg "__name__").getD .none) c' ctv) ∈ nw8 := by rw [hnw8]; exact .head _
    have mc8 : (L' + 1, o1) ∈ nw8 := by rw [hnw8]; exact .tail _ (List.mem_append_right _ (.head _))
    have mr8 : ∀ p ∈ led' ++ rest, p ∈ nw8 := fun p hp => by
      rw [hnw8]
      rcases List.mem_append.mp hp with hp | hp
      · exact .tail _ (List.mem_append_left _ hp)
      · exact .tail _ (List.mem_append_right _ (.tail _ hp))
    clear hnw8 N9 F3
    k_steps
    k_dflt (refine' refused_spec B' F8 X' T' X T (Nat.le_trans FG'.above (Nat.le_of_lt (Nat.lt_of_lt_of_le FG'.ns.lt F8.above))) ?k5 N8 mf8 hC ?k12 ?k13 ?_; (case k5 => first | exact rfl | assumption); (case k12 => ktr_room); (case k13 => ktr_units))
    intro b g2 h9 tk9 hb B9 X9 T9 F9 N9 up9
    (try dsimp only)
    (try k_fold)
    clear F8 N8 B' X' T' hC
    k_steps
    rename_i tb2 vs2 n2 led2 h10 tk10 F10 N10 hT10 hA10
    have hsz2 : vs2.size = 6 := by
      have := forall2_len hT10
      rw [Array.length_toList] at this
      exact this
    obtain ⟨nw2, hnw2⟩ : ∃ nw2, nw2 = (tb2, listOf vs2 n2) :: (led2 ++ nw8) := ⟨_, rfl⟩
    replace N10 : News g2 L' h10 nw2 := by rw [hnw2]; exact N10
    have mT10 : (tb2, listOf vs2 n2) ∈ nw2 := by rw [hnw2]; exact .head _
    have mL10 : ∀ p ∈ led2, p ∈ nw2 := fun p hp => by rw [hnw2]; exact .tail _ (List.mem_append_left _ hp)
    have mN10 : ∀ p ∈ nw8, p ∈ nw2 := fun p hp => by rw [hnw2]; exact .tail _ (List.mem_append_right _ hp)
    clear hnw2 hA10
    refine LCg.CompSrc.ledger (by rfl) F10 N10 mT10 (by rw [sizeLine_eq]; omega) fun g9 => compL (vs := vs2.toList) (CodeJ nw2) ⟨rfl, .nil⟩ ?_ ?_
    · rintro i ys news₁ v I oI C oC D m₂ h tk E' hv ⟨rfl, hys⟩ hC hx F2 N2 off ne
      obtain ⟨r, hr, x, px, u1, u2, pvs, q1, q2, rfl, hmx, hmp, hI⟩ := forall2_get hT10 hv
      have mx := mL10 _ hmx
      k_steps
      exact comp_end F2 N2 (fun p hp => hp) (off3_of off) (.inr ⟨_, mT10, rfl, _, rfl⟩) ⟨rfl, by rw [List.take_add_one, hr, List.map_append]; exact ints_snoc hys⟩
    · rintro ys news' ⟨rfl, hys⟩
      unfold LCg.FinE
      intro D h tk F2 N2 o1
      rw [Array.length_toList, hsz2] at hys
      have hKe : Keeps led led' (led ++ rest) := fun x ⟨q, hq, e⟩ hx => k8 x ⟨q, by
        rcases List.mem_append.mp hq with h | h
        · exact List.mem_append_left _ h
        · exact List.mem_append_right _ (.tail _ h), e⟩ hx
      obtain ⟨F11, N11⟩ := back_base FG' B9 up9 F2 N2
      k_steps
      · rename_i hin
        have hb2 : b = false := by
          cases b with
          | false => rfl
          | true => exact absurd (codes_mem.mp hin) (hb.mp rfl)
        subst hb2
        exact ret led' _ _ F11 (news_sub N11 fun p hp => .tail _ (mN10 _ (mr8 _ hp))) hT8.ok hKe
      · rename_i hin
        have hb2 : b = true := hb.mpr fun e => hin (codes_mem.mpr e)
        subst hb2
        exact ret led' _ _ F11 (news_sub N11 fun p hp => .tail _ (mN10 _ (mr8 _ hp))) hT8.ok hKe
end
end
section
open PySem PySem.Calls PySem.W PyProof.Rows
local macro_rules | `(tactic| k_all) => `(tactic| with_reducible assumption)
local macro_rules | `(tactic| k_mem) => `(tactic| first | with_reducible assumption | exact List.mem_cons_self | (refine' List.mem_cons_of_mem _ ?_; k_mem))

/-- between the turns of the law -/
abbrev lPos : Pos := { line := 174, col := 27, endLine := 174, endCol := 53 }
abbrev lQual : Str := Str.ofString "law" ++ Str.ofString ".<locals>." ++ Str.ofString "<lambda>"
def LawJ (l cc : Addr) (_ : Nat) (m₁ : Str → Option Value) (news₁ : List (Addr × Obj)) : Prop :=
  m₁ (Str.ofString "script") = some (.ref l) ∧ ∃ oc v₀ ledK ledL, news₁ = (cc, oc) :: (ledK ++ ledL) ∧ oc.data = .cell v₀ ∧ TabOk 266 kPos kQual ledK ∧ TabOk 271 lPos lQual ledL
local macro_rules | `(tactic| walk_at "pyIter ref") => `(tactic| (k_here; (with_reducible show wpAny _ _ (pyIter (Value.ref _)) _ _ _); with_reducible refine stopAt ?_))
local macro_rules | `(tactic| walk_at "call ref") => `(tactic| (k_here; (with_reducible show wpAny _ _ (call (Value.ref _) _) _ _ _); with_reducible refine stopAt ?_))
local macro_rules | `(tactic| walk_at "eval Lambda") => `(tactic| (k_here; with_reducible refine stopAt ?_))
def InTurn : Prop := True
local macro_rules | `(tactic| walk_at "eval Name") => `(tactic| (k_here; (with_reducible rename InTurn => hturn); k_dflt (refine' nameX_L ?k1 ?k2 ?_ ?k3 ?k4 ?k5; (case k3 => rfl); (case k4 => rfl); (case k5 => decide); (case k1 => k_asm); (case k2 => first | exact rfl | assumption); k_whole)))
local macro_rules | `(tactic| walk_at "TPost") => `(tactic| (dsimp only [TPost]))
theorem bound_nat (k : Nat) : ∃ n : Nat, (if (if 2 < (k : Int) then 2 else (k : Int)) > 1 then if 2 < (k : Int) then 2 else (k : Int) else 1) = (n : Int) ∧ n ≤ 2 := by
  refine ⟨((if (if 2 < (k : Int) then 2 else (k : Int)) > 1 then if 2 < (k : Int) then 2 else (k : Int) else 1) : Int).toNat, ?_, ?_⟩ <;> repeat' split
  all_goals omega
theorem lawJ0 {h₀ : Heap} {l cc : Addr} {vs : Array Value} {oc : Obj} {v₀ : Option Value} {m : Str → Option Value} (hl : h₀.IsList l vs) (hm : m (Str.ofString "script") = some (.ref l)) (hdd : oc.data = .cell v₀) : LawJ l cc 0 m [(cc, oc), (266, tabObj #[]), (271, tabObj #[])] :=
  ⟨hm, oc, v₀, [_], [_], rfl, hdd, .inl rfl, .inl rfl⟩
theorem led_open {h₀ h : Heap} {L I cc : Addr} {oI oc : Obj} {ledK ledL : List (Addr × Obj)} (N : News h₀ L h ((I, oI) :: (cc, oc) :: (ledK ++ ledL))) : ∃ w0, News h₀ L h w0 ∧ (I, oI) ∈ w0 ∧ (cc, oc) ∈ w0 ∧ (∀ p ∈ ledK, p ∈ w0) ∧ (∀ p ∈ ledL, p ∈ w0) :=
  ⟨_, N, .head _, .tail _ (.head _), fun p hp => .tail _ (.tail _ (List.mem_append_left _ hp)), fun p hp => .tail _ (.tail _ (List.mem_append_right _ hp))⟩
theorem led_open2 {h₀ h : Heap} {L cc f : Addr} {of oc : Obj} {ledK ledL nr : List (Addr × Obj)} (N : News h₀ L h ((f, of) :: (ledL ++ (cc, oc) :: (ledK ++ nr)))) : ∃ w0, News h₀ L h w0 ∧ (f, of) ∈ w0 ∧ (cc, oc) ∈ w0 ∧ (∀ p ∈ ledL, p ∈ w0) ∧ (∀ p ∈ ledK, p ∈ w0) ∧ (∀ p ∈ nr, p ∈ w0) :=
  ⟨_, N, .head _, .tail _ (List.mem_append_right _ (.head _)), fun p hp => .tail _ (List.mem_append_left _ hp), fun p hp => .tail _ (List.mem_append_right _ (.tail _ (List.mem_append_left _ hp))), fun p hp => .tail _ (List.mem_append_right _ (.tail _ (List.mem_append_right _ hp)))⟩
local macro_rules | `(tactic| walk_at "compareOp Eq bool bool") => `(tactic| (k_here; k_dflt (refine' eq_never (by with_reducible assumption) (by with_reducible assumption) ?_)))
local macro_rules | `(tactic| walk_at "compareOp NotEq ref ref") => `(tactic| (k_here; (with_reducible show wpAny _ _ (compareOp .NotEq (Value.ref _) (Value.ref _)) _ _ _); with_reducible refine stopAt ?_))
local macro_rules | `(tactic| walk_at "subscriptTail") => `(tactic| (k_here; (with_reducible show wpAny _ _ (subscriptTail _ _ (Value.ref _) (Value.int _ _)) _ _ _); with_reducible refine stopAt ?_))
local macro_rules | `(tactic| walk_at "call builtin:len") => `(tactic| (k_here; (with_reducible rename InTurn => hturn); (with_reducible show wpAny _ _ (call (Value.builtin "len") [Value.ref _]) _ _ _); with_reducible refine stopAt ?_))
theorem parts_mul {many size y : Int} (h0 : 0 ≤ many) (h1 : 1 ≤ size) (h2 : many < 90) : IntMulOk ((many + size - 1).fdiv size) y := by
  have h := parts_range h0 h1 h2
  exact IntMulOk.of_left (intBits_le_64 (by omega) (by omega))
theorem parts_mul' {many size y : Int} (h0 : 0 ≤ many) (h1 : 1 ≤ size) (h2 : many < 90) : IntMulOk ((many + size - 1).fdiv size - 1) y := by
  have h := parts_range h0 h1 h2
  exact IntMulOk.of_left (intBits_le_64 (by omega) (by omega))
local macro_rules | `(tactic| mul_fits) => `(tactic| first | exact parts_mul (by omega) (by omega) (by omega) | exact parts_mul' (by omega) (by omega) (by omega))
section
variable {prog : Program} {w : World} {A : Around} {E : Value → Shared → Prop} {s : Shared} {Q : Value → Shared → Prop}
theorem lt_no {a b : Int} {t u : Tok} (h : b ≤ a) (k : Q (.bool false) s) : wpAny (model prog w) A (compareOp .Lt (.int a t) (.int b u)) Q E s := by
  refine lt_int ?_
  rw [decide_eq_false (by omega)]; exact k
theorem ge_no {a b : Int} {t u : Tok} (h : a < b) (k : Q (.bool false) s) : wpAny (model prog w) A (compareOp .GtE (.int a t) (.int b u)) Q E s := by
  refine ge_int ?_
  rw [decide_eq_false (by omega)]; exact k
end
local macro_rules | `(tactic| walk_at "compareOp Lt int int") => `(tactic| (k_here; k_dflt (refine' lt_no (parts_law (by omega) (by omega)).1 ?_)))
local macro_rules | `(tactic| walk_at "compareOp GtE int int") => `(tactic| (k_here; k_dflt (refine' ge_no (parts_law (by omega) (by omega)).2 ?_)))
def JPost (h₀ : Heap) (L : Addr) (m : Str → Option Value) (all : List (Addr × Obj)) (s : Shared) (b : Bool) (s' : Shared) : Prop :=
  b = false ∧ ∃ h tk, s' = { s with heap := h, toks := tk } ∧ Fr h₀ L h m ∧ News h₀ L h all
theorem JPost.intro {h₀ : Heap} {L : Addr} {m : Str → Option Value} {all : List (Addr × Obj)} {s : Shared} {h : Heap} {tk : Nat} (F : Fr h₀ L h m) (N : News h₀ L h all) : JPost h₀ L m all s false { s with heap := h, toks := tk } :=
  ⟨rfl, h, tk, rfl, F, N⟩
/-- a test that is False on every way: what is behind it is walked once -/
theorem test_join {prog : Program} {w : World} {A : Around} {E : Value → Shared → Prop} {s : Shared} {Q : Bool → Shared → Prop} {e : Expr} {env : Env} {whole : Sem Value} {h₀ : Heap} {L : Addr} {m : Str → Option Value} {all : List (Addr × Obj)}
    (F : Fr h₀ L s.heap m) (N : News h₀ L s.heap all) (h : wpAny (model prog w) A (isTrue e env whole) (JPost h₀ L m all s) E s)
    (k : ∀ h tk, Fr h₀ L h m → News h₀ L h all → Q false { s with heap := h, toks := tk }) : wpAny (model prog w) A (isTrue e env whole) Q E s :=
  wpAny_mono h (fun b s' p => by
    obtain ⟨rfl, h, tk, rfl, F, N⟩ := p
    exact k h tk F N) fun _ _ x => x
local macro_rules | `(tactic| walk_at "isTrue BoolOp") => `(tactic| (k_here; (with_reducible show wpAny _ _ (isTrue (PySem.Expr.BoolOp PySem.BoolOp.And [_, _] _) _ _) _ _ _); with_reducible refine stopAt ?_))
theorem led_kinds {h₀ h : Heap} {L so cc I : Addr} {o15 o8 oI : Obj} {r14 all ledK ledL : List (Addr × Obj)} (N : News h₀ L h ((so, o15) :: r14)) (hin : ∀ p ∈ all, @Ne Nat p.1 so → p ∈ r14) (mK : ∀ p ∈ ledK, p ∈ all) (hK : ∀ p ∈ ledK, p.1 ≠ so) (mc : (cc, o8) ∈ all) (hc : cc ≠ so) (mI : (I, oI) ∈ all) (hI : I ≠ so) (mL : ∀ p ∈ ledL, p ∈ all) (hL : ∀ p ∈ ledL, p.1 ≠ so) :
    News h₀ L h (ledK ++ ((so, o15) :: (cc, o8) :: (I, oI) :: ledL)) := by
  refine news_sub N fun p hp => ?_
  rcases List.mem_append.mp hp with hp | hp
  · exact .tail _ (hin p (mK p hp) (hK p hp))
  · rcases List.mem_cons.mp hp with rfl | hp
    · exact .head _
    · rcases List.mem_cons.mp hp with rfl | hp
      · exact .tail _ (hin _ mc hc)
      · rcases List.mem_cons.mp hp with rfl | hp
        · exact .tail _ (hin _ mI hI)
        · exact .tail _ (hin p (mL p hp) (hL p hp))
theorem led_ne266 {so cc I : Addr} {P : Addr} {o15 o8 oI : Obj} {ledL : List (Addr × Obj)} (h1 : so ≠ P) (h2 : cc ≠ P) (h3 : I ≠ P) (h4 : ∀ p ∈ ledL, p.1 ≠ P) : ∀ p ∈ (so, o15) :: (cc, o8) :: (I, oI) :: ledL, p.1 ≠ P := by
  intro p hp
  rcases List.mem_cons.mp hp with rfl | hp
  · exact h1
  · rcases List.mem_cons.mp hp with rfl | hp
    · exact h2
    · rcases List.mem_cons.mp hp with rfl | hp
      · exact h3
      · exact h4 p hp
theorem led_end {so cc I : Addr} {o15 o8 oI : Obj} {a b : Addr × Obj} {r18 ledK ledL : List (Addr × Obj)} (hin : ∀ p ∈ ledK ++ ((so, o15) :: (cc, o8) :: (I, oI) :: ledL), @Ne Nat p.1 so → p ∈ r18) (hK : ∀ p ∈ ledK, p.1 ≠ so) (hc : cc ≠ so) (hI : I ≠ so) (hL : ∀ p ∈ ledL, p.1 ≠ so) :
    ∀ p ∈ [(I, oI)] ++ ((cc, o8) :: (ledK ++ ledL)), p ∈ a :: b :: r18 := by
  intro p hp
  refine .tail _ (.tail _ ?_)
  rcases List.mem_cons.mp hp with rfl | hp
  · exact hin _ (List.mem_append_right _ (.tail _ (.tail _ (.head _)))) hI
  · rcases List.mem_cons.mp hp with rfl | hp
    · exact hin _ (List.mem_append_right _ (.tail _ (.head _))) hc
    · rcases List.mem_append.mp hp with hp | hp
      · exact hin _ (List.mem_append_left _ hp) (hK p hp)
      · exact hin _ (List.mem_append_right _ (.tail _ (.tail _ (.tail _ hp)))) (hL p hp)
theorem led_off {cc I : Addr} {o8 : Obj} {ledK ledL : List (Addr × Obj)} (hc : cc ≠ I) (hK : ∀ p ∈ ledK, p.1 ≠ I) (hL : ∀ p ∈ ledL, p.1 ≠ I) : ∀ p ∈ (cc, o8) :: (ledK ++ ledL), p.1 ≠ I := by
  intro p hp
  rcases List.mem_cons.mp hp with rfl | hp
  · exact hc
  · rcases List.mem_append.mp hp with hp | hp
    · exact hK p hp
    · exact hL p hp
theorem lookup_take {β : Type} : ∀ (K : List (Nat × β)) (n : Nat) (a : Nat) (o : β), (K.take n).lookup a = some o → K.lookup a = some o := by
  intro K
  induction K with
  | nil => intro n a o h; simp at h
  | cons p K ih =>
    intro n a o h
    cases n with
    | zero => simp at h
    | succ n =>
      obtain ⟨b, x⟩ := p
      rw [List.take_succ_cons, List.lookup_cons] at h
      rw [List.lookup_cons]
      split at h
      · exact h
      · exact ih n a o h
theorem kc_take {h : Heap} {K K' : Frag} (n : Nat) (X : K.In h) (e : K.take n = K') : K'.In h := by
  subst e
  exact fun a o q => X a o (lookup_take K n a o q)
theorem T.tw12407938699123851831 : True := trivial
theorem T.tw7500392743014327623 : True := trivial
theorem T.tw12447341229665645636 : True := trivial
theorem T.tw12034639822172079790 : True := trivial
theorem T.tw11548371322936578902 : True := trivial
theorem T.tw9228400014575799291 : True := trivial
theorem T.tw4989629856532415159 : True := trivial
theorem T.tw14127643153360131839 : True := trivial
theorem T.tw759011541700229257 : True := trivial
theorem T.tw3111479197293601007 : True := trivial
theorem T.tw6674040290145606074 : True := trivial
theorem T.tw8134194763060374886 : True := trivial
theorem T.tw3570285021007982270 : True := trivial
theorem T.tw16249221360644892672 : True := trivial
theorem T.tw1672058754556645809 : True := trivial
theorem T.tw17022109421657084229 : True := trivial
theorem T.tw17184883495616865863 : True := trivial
theorem T.tw17715419061077185518 : True := trivial
theorem T.tw17183969555234899231 : True := trivial
theorem T.tw13431429352462002409 : True := trivial
theorem T.tw359611311521608687 : True := trivial
theorem T.tw14368588838730703418 : True := trivial
theorem T.tw7724020449943043519 : True := trivial
theorem T.tw12667117979816795768 : True := trivial
theorem T.tw11627633846682675279 : True := trivial
theorem T.tw10473407842447556673 : True := trivial
theorem T.tw11093940583694692962 : True := trivial
theorem T.tw12454776918757555667 : True := trivial
theorem T.tw14161477013376071969 : True := trivial
theorem T.tw4571388643902240538 : True := trivial
theorem T.tw14137050519377520009 : True := trivial
theorem T.tw12204653893829520541 : True := trivial
theorem T.tw4938009841533177334 : True := trivial
theorem T.tw8710154655392336807 : True := trivial
theorem T.tw1785111352018815160 : True := trivial
theorem T.tw7893656249104329540 : True := trivial
theorem T.tw521386223065310020 : True := trivial
theorem T.tw146703420845941561 : True := trivial
theorem T.tw1908967626043860921 : True := trivial
theorem T.tw16829986501499785709 : True := trivial
theorem T.tw7617881854868018075 : True := trivial
theorem T.tw1019704904151058759 : True := trivial
theorem T.tw866652832900212115 : True := trivial
theorem T.tw13315812773609792309 : True := trivial
theorem T.tw9336553579797362510 : True := trivial
theorem T.tw11550264359310272821 : True := trivial
theorem T.tw1294166953526766390 : True := trivial
theorem T.tw10228009266057897024 : True := trivial
theorem T.tw87992699563414380 : True := trivial
theorem T.tw3971507095422369659 : True := trivial
theorem T.tw14290431123820622415 : True := trivial
theorem T.tw11174793112904561282 : True := trivial
theorem T.tw8615033678478266167 : True := trivial
theorem T.tw10711486019773998056 : True := trivial
theorem T.tw9003807781820479305 : True := trivial
theorem T.tw10254528247748518945 : True := trivial
theorem T.tw4382116886627415101 : True := trivial
theorem T.tw7463178120862764286 : True := trivial
theorem T.tw572414661305019207 : True := trivial
theorem T.tw4671921557562528307 : True := trivial
theorem T.tw6664419199626893081 : True := trivial
theorem T.tw5146778027524865036 : True := trivial
theorem T.tw18052337292966445701 : True := trivial
theorem T.tw6213166272013849097 : True := trivial
theorem T.tw6269907370777011078 : True := trivial
theorem T.tw13720527534813265808 : True := trivial
theorem T.tw2886681591442762849 : True := trivial
theorem T.tw15640935311301476719 : True := trivial
theorem T.tw12152860771965602728 : True := trivial
theorem T.tw2320958145340625329 : True := trivial
theorem T.tw4048260802874716376 : True := trivial
theorem T.tw16675141112561441062 : True := trivial
theorem T.tw15270552976278090816 : True := trivial
theorem T.tw1466231717841063892 : True := trivial
theorem T.tw11148467641433392323 : True := trivial
theorem T.tw5926796648780485434 : True := trivial
theorem T.tw13096207752755507904 : True := trivial
theorem T.tw4472992514927175743 : True := trivial
theorem T.tw13935736271120911575 : True := trivial
theorem T.tw8615509512011633234 : True := trivial
theorem T.tw15924931191644930407 : True := trivial
theorem T.tw14873790540924078165 : True := trivial
theorem T.tw1488443681446739715 : True := trivial
theorem T.tw3319980332031223029 : True := trivial
theorem T.tw8011331925328954752 : True := trivial
theorem T.tw7609052910830513111 : True := trivial
theorem T.tw4314683947189413238 : True := trivial
theorem T.tw5464306231487298793 : True := trivial
theorem T.tw8209307983443691066 : True := trivial
theorem T.tw16679263590716133373 : True := trivial
theorem T.tw605094880331900669 : True := trivial
theorem T.tw2805783931119787028 : True := trivial
theorem T.tw7393180600091926844 : True := trivial
theorem T.tw12474298648381362816 : True := trivial
theorem T.tw5148255082214196020 : True := trivial
theorem T.tw11689601598563630704 : True := trivial
theorem T.tw7390887548477937525 : True := trivial
theorem T.tw9635003839870230622 : True := trivial
theorem T.tw3282795649809181636 : True := trivial
theorem T.tw8471921315005637403 : True := trivial
theorem T.tw16855880232707491408 : True := trivial
theorem T.tw160417656128409211 : True := trivial
theorem T.tw13257719994105678526 : True := trivial
theorem T.tw4985728463141621544 : True := trivial
theorem T.tw10851796672867826128 : True := trivial
theorem T.tw2252320514758660084 : True := trivial
theorem T.tw16523373388932625438 : True := trivial
theorem T.tw2735526296913968876 : True := trivial
theorem T.tw8457644857661878158 : True := trivial
theorem T.tw1039828902080549403 : True := trivial
theorem T.tw15519596694839288333 : True := trivial
theorem T.tw16075087083641340015 : True := trivial
theorem T.tw7932610612805303773 : True := trivial
theorem T.tw10308208413756467839 : True := trivial
theorem T.tw17242551716454344640 : True := trivial
theorem T.tw2477399905790477400 : True := trivial
theorem T.tw4413499507792744575 : True := trivial
theorem T.tw4497532590763926627 : True := trivial
theorem T.tw9423940441677382480 : True := trivial
theorem T.tw7965837232728666122 : True := trivial
theorem T.tw14130534062832904549 : True := trivial
theorem T.tw2573296193435238859 : True := trivial
theorem T.tw17951372397233240356 : True := trivial
theorem T.tw6031961446383259702 : True := trivial
theorem T.tw14791394940211739201 : True := trivial
theorem T.tw1670105297207150085 : True := trivial
theorem T.tw17132275572615169272 : True := trivial
theorem T.tw2665869717486173657 : True := trivial
theorem T.tw8965645345161419306 : True := trivial
theorem T.tw9213077850292179578 : True := trivial
theorem T.tw10866109940007143950 : True := trivial
theorem T.tw180598169064660963 : True := trivial
theorem T.tw8267637151396823715 : True := trivial
theorem T.tw14167789697066154908 : True := trivial
theorem T.tw10847513253291746902 : True := trivial
theorem T.tw5864034376924536467 : True := trivial
theorem T.tw10620449889783711184 : True := trivial
theorem T.tw9517472143268845518 : True := trivial
theorem T.tw16736342391056918733 : True := trivial
theorem T.tw6507828892317653071 : True := trivial
theorem T.tw10178743560288329337 : True := trivial
theorem T.tw6011121893892218767 : True := trivial
theorem T.tw15134254821567703627 : True := trivial
theorem T.tw14793398083069452912 : True := trivial
theorem T.tw4216181492863054515 : True := trivial
theorem T.tw2677526481030150021 : True := trivial
theorem T.tw13513454274585654168 : True := trivial
theorem T.tw1572726475754821004 : True := trivial
theorem T.tw6631628496440777474 : True := trivial
theorem T.tw2605378649291683830 : True := trivial
theorem T.tw2860991548861448340 : True := trivial
theorem T.tw17166136588470460168 : True := trivial
theorem T.tw39926853507749674 : True := trivial
theorem T.tw1943280758004582582 : True := trivial
theorem T.tw17295023389579400864 : True := trivial
theorem T.tw7211621845732845004 : True := trivial
theorem T.tw5957974973895937820 : True := trivial
theorem T.tw4946127289089465306 : True := trivial
theorem T.tw4791028960598878670 : True := trivial
theorem T.tw8954352980633488870 : True := trivial
theorem T.tw4147143095738575812 : True := trivial
theorem T.tw3517438559056291811 : True := trivial
theorem T.tw15853617700617044882 : True := trivial
theorem T.tw6846167710179606274 : True := trivial
theorem T.tw2008762296917930918 : True := trivial
theorem T.tw9991206745402032329 : True := trivial
theorem T.tw961655852736034427 : True := trivial
theorem T.tw16520471668357238102 : True := trivial
theorem T.tw1965132509376475549 : True := trivial
theorem T.tw6402271339912586639 : True := trivial
theorem T.tw12975029770378234824 : True := trivial
theorem T.tw4294916528587303233 : True := trivial
theorem T.tw9152173918385661949 : True := trivial
theorem T.tw12630402954095302440 : True := trivial
theorem T.tw10867581120073879403 : True := trivial
theorem T.tw2398053685162489787 : True := trivial
theorem T.tw3119492887967556205 : True := trivial
theorem T.tw7692958971090739450 : True := trivial
theorem T.tw17303534365650198570 : True := trivial
theorem T.tw9219286585117817169 : True := trivial
theorem T.tw6757009421941001566 : True := trivial
theorem T.tw7097754640463170351 : True := trivial
theorem T.tw1471066256486586943 : True := trivial
theorem T.tw9008840569365024312 : True := trivial
theorem T.tw10330790537647106973 : True := trivial
theorem T.tw16061341637835473815 : True := trivial
theorem T.tw800492024332931695 : True := trivial
theorem T.tw4974295846504474401 : True := trivial
theorem T.tw10703587896766579253 : True := trivial
theorem T.tw5239534926750654112 : True := trivial
theorem T.tw6047718289274833 : True := trivial
theorem T.tw3992961008954535047 : True := trivial
theorem T.tw5877938914458937954 : True := trivial
theorem T.tw17753887874830503799 : True := trivial
theorem T.tw16024471667199613197 : True := trivial
theorem T.tw8592019820027457150 : True := trivial
theorem T.tw10893748239112176767 : True := trivial
theorem T.tw5100426886794750321 : True := trivial
theorem T.tw4484484137260726977 : True := trivial
theorem T.tw16948823977363588188 : True := trivial
theorem T.tw11068462342858003425 : True := trivial
theorem T.tw10607346810354952312 : True := trivial
theorem T.tw13389792507216377198 : True := trivial
theorem T.tw5962931812363503572 : True := trivial
theorem T.tw1930289490919111527 : True := trivial
theorem T.tw544000147142291163 : True := trivial
theorem T.tw6650687380171496067 : True := trivial
theorem T.tw14751004811338634175 : True := trivial
theorem T.tw9698777490186625958 : True := trivial
theorem T.tw15903411139492503814 : True := trivial
theorem T.tw14428184478928439448 : True := trivial
theorem T.tw3933025282494452460 : True := trivial
theorem T.tw9030602803148758132 : True := trivial
theorem T.tw10517137388166911642 : True := trivial
theorem T.tw17387714802881770842 : True := trivial
theorem T.tw15117768173514439566 : True := trivial
theorem T.tw4277674560559923004 : True := trivial
theorem T.tw6631565452820261090 : True := trivial
theorem T.tw11027331833268642720 : True := trivial
theorem T.tw1140134251124411643 : True := trivial
theorem T.tw2330323665433148117 : True := trivial
theorem T.tw7307702771362620790 : True := trivial
theorem T.tw10819461168918169055 : True := trivial
theorem T.tw8305758139369721794 : True := trivial
theorem T.tw10918520866328239918 : True := trivial
theorem T.tw16589012158815145906 : True := trivial
theorem T.tw18241396539045194210 : True := trivial
theorem T.tw13183637887276035848 : True := trivial
theorem T.tw3038949702005135097 : True := trivial
theorem T.tw9296428851780510214 : True := trivial
theorem T.tw15894285286222423248 : True := trivial
theorem T.tw4728857948348040844 : True := trivial
theorem T.tw1066798445012211133 : True := trivial
theorem T.tw9879792706161743993 : True := trivial
theorem T.tw8574612897209286621 : True := trivial
theorem T.tw17706035394073243010 : True := trivial
theorem T.tw9947299930473389165 : True := trivial
theorem T.tw5925269049988400439 : True := trivial
theorem T.tw3238219246855700107 : True := trivial
theorem T.tw10560793534464314133 : True := trivial
theorem T.tw5680167002055150565 : True := trivial
theorem T.tw7817724517658264900 : True := trivial
theorem T.tw11691666209553914245 : True := trivial
theorem T.tw13210878512205061286 : True := trivial
theorem T.tw8634951697348991730 : True := trivial
theorem T.tw766702006737666712 : True := trivial
theorem T.tw14768358848971062775 : True := trivial
theorem T.tw4327467263718471335 : True := trivial
theorem T.tw18433504068738565117 : True := trivial
theorem T.tw9657371520700513191 : True := trivial
theorem T.tw8607396687893188377 : True := trivial
theorem T.tw4598772831538376564 : True := trivial
theorem T.tw13121175181286911927 : True := trivial
theorem T.tw4286330081393270438 : True := trivial
theorem T.tw9459310642740600877 : True := trivial
theorem T.tw12549962657645226713 : True := trivial
theorem T.tw15761409225758096556 : True := trivial
theorem T.tw1836572044345544835 : True := trivial
theorem T.tw9443462927006442942 : True := trivial
set_option Elab.async true in
theorem T : PySem.Challenge.rw_nz0245_01.Holds := by
  w_on
  o_law
  k_head
  (case hw => w_witness2)
  have hfill : (fun (_ : OpenLaw) (_ : Params → Frag) => True) PySem.Challenge.rw_nz0245_01 Kc := by k_fill; trivial
  clear hfill
  k_go0
  (all_goals try k_fold)
  rename_i X9 T0 B0 F00 CK N00 l00
  rename World => w1
  rename Shared => s1
  have X0 : (Kc w1.params).In _ := kc_take 165 X9 (by kernel_rfl)
  clear X9
  k_steps
  rename_i hR F0 N0 hkeep
  unfold Stop
  refine' loopR (n := ?n) (LawJ ?jl ?jc) rfl hR ?b1 ?b2 F0 N0 ?b3 ?_ ?_
  case b1 => exact (bound_nat _).choose_spec.1
  case b2 => exact Nat.le_trans (bound_nat _).choose_spec.2 (by decide)
  case b3 => (refine lawJ0 lifted ?_ (by assumption); k_dflt (exact rfl))
  · rintro i t m₁ news₁ I oI h tk hi ⟨hj1, oc, v₀, ledK, ledL, rfl, hoc, hTK, hTL⟩ hoff F1 N1
    have hturn : InTurn := trivial
    have hI0 := ‹IntsAre _ _›
    have hL0 := ‹¬ ((63 : Nat) : Int) < _›
    have hi2 : i < 2 := Nat.lt_of_lt_of_le hi (bound_nat _).choose_spec.2
    obtain ⟨w0, N2, mI, mc, mK, mL⟩ := led_open N1
    clear N1 N0 hR F0 hkeep
    k_steps
    unfold Stop
    k_dflt (refine' pool_spec B0 F1 X0 T0 ?k5 N2 lifted ?i ?fit ?k0 ?k1 ?k12 ?k13 ?_; (case k5 => exact rfl); (case i => assumption); (case fit => omega); (case k0 => omega); (case k1 => omega); (case k12 => ktr_room); (case k13 => ktr_units))
    intro so o1 h3 tk3 F3 N3 hs3 hl3
    (try dsimp only)
    (try k_fold)
    clear N2 F1
    k_steps
    unfold Stop
    k_dflt (refine' numbers_spec B0 ?k1 X0 T0 ?k5 ?k6 (.head (r := w0)) hs3 ?ne ?k12 ?k13 ?_; (case k1 => k_asm); (case k6 => k_asm); (case k5 => exact rfl); (case ne => exact fun p hp => Nat.ne_of_lt (hl3 p hp)); (case k12 => ktr_room); (case k13 => ktr_units))
    intro ta kind1 prec1 hei1 wid1 rl t1 t2 t3 t4 n1 n2 rows1 rowsLed o4 h4 tk4 F4 N4 hs4 hrows4 hko4 hr41 hr43 hap4
    (try dsimp only)
    (try k_fold)
    k_steps
    unfold Stop
    k_dflt (refine' spoilt_spec B0 ?k1 X0 T0 ?k5 ?k6 (fun p hp => hp) hs4 hrows4 hko4 hr41 hr43 hap4 ?k12 ?k13 ?_; (case k1 => k_asm); (case k6 => k_asm); (case k5 => exact rfl); (case k12 => ktr_room); (case k13 => ktr_units))
    intro kind prec hei wid rows o5 w5 h5 tk5 F5 N5 hs5 hne5 hsub5 hT5 hko hlen
    (try dsimp only)
    (try k_fold)
    have hT5' : ToldAt ((so, o5) :: w5) ta kind prec hei wid rows := hT5.mono' fun p hp => List.mem_cons_of_mem _ hp
    clear hap4 hrows4 hko4 hr41 hr43
    k_steps
    unfold Stop
    k_dflt (refine' built_spec B0 ?k1 X0 T0 ?k5 ?k6 hT5' hlen ?k12 ?k13 ?_; (case k1 => k_asm); (case k6 => k_asm); (case k5 => exact rfl); (case k12 => ktr_room); (case k13 => ktr_units))
    intro fx led6 h6 tk6 F6 N6 hF6 hap6
    (try dsimp only)
    (try k_fold)
    have mI6 : (I, oI) ∈ led6 ++ (so, o5) :: w5 := List.mem_append_right _ (.tail _ (hsub5 _ mI))
    have ms6 : (so, o5) ∈ led6 ++ (so, o5) :: w5 := List.mem_append_right _ (.head _)
    obtain ⟨nr, N7, hnr, hso, hother⟩ := split_led N6 (List.mem_append_right _ (.tail _ (hsub5 _ mc))) hoc hTL (fun p hp => List.mem_append_right _ (.tail _ (hsub5 _ (mL p hp)))) hTK (fun p hp => List.mem_append_right _ (.tail _ (hsub5 _ (mK p hp))))
    have hcL : ∀ p ∈ ledL, p.1 ≠ _ := cell_apart N7 (.head _) hoc hTL fun p hp => .tail _ (List.mem_append_left _ hp)
    have hcK : ∀ p ∈ ledK, p.1 ≠ _ := cell_apart N7 (.head _) hoc hTK fun p hp => .tail _ (List.mem_append_right _ (List.mem_append_left _ hp))
    have hLK : ∀ p ∈ ledK, p.1 ≠ 271 := tab_apart (by decide) N7 hTK (fun p hp => .tail _ (List.mem_append_right _ (List.mem_append_left _ hp))) hTL fun p hp => .tail _ (List.mem_append_left _ hp)
    have hKL : ∀ p ∈ ledL, p.1 ≠ 266 := tab_apart (by decide) N7 hTL (fun p hp => .tail _ (List.mem_append_left _ hp)) hTK fun p hp => .tail _ (List.mem_append_right _ (List.mem_append_left _ hp))
    have hIL : ∀ p ∈ ledL, p.1 ≠ I := fun p hp => hoff p (.tail _ (List.mem_append_right _ hp))
    have hIK : ∀ p ∈ ledK, p.1 ≠ I := fun p hp => hoff p (.tail _ (List.mem_append_left _ hp))
    have hIc := hoff _ (.head _)
    have mI7 : (I, oI) ∈ nr := hother _ mI6 (fun e => hIc e.symm) (fun e => by
      obtain ⟨ps, hps, _⟩ := hTL.head
      exact hIL _ hps e.symm) (fun e => by
      obtain ⟨ps, hps, _⟩ := hTK.head
      exact hIK _ hps e.symm)
    have ms7 : (so, o5) ∈ nr := hso _ ms6 (src_solid hs5)
    have hF7 : FrameIn nr fx kind prec hei wid rows := hF6.only hso
    have hT7 : ToldAt nr ta kind prec hei wid rows := hT5.only fun p hp hS => hso p (List.mem_append_right _ (.tail _ hp)) hS
    have hIso : I ≠ so := Nat.ne_of_lt (hl3 _ mI)
    have hLso : ∀ p ∈ ledL, p.1 ≠ so := fun p hp => Nat.ne_of_lt (hl3 p (mL p hp))
    have hKso : ∀ p ∈ ledK, p.1 ≠ so := fun p hp => Nat.ne_of_lt (hl3 p (mK p hp))
    have h266so : so ≠ 266 := by
      obtain ⟨ps, hps, _⟩ := hTK.head
      exact (hKso _ hps).symm
    have h266I : I ≠ 266 := by
      obtain ⟨ps, hps, _⟩ := hTK.head
      exact (hoff _ (.tail _ (List.mem_append_left _ hps))).symm
    have h266c : s1.heap.objs.size + 1 ≠ 266 := by have := l00.1; show @Ne Nat (s1.heap.objs.size + 1) 266; omega
    have hcso : s1.heap.objs.size + 1 ≠ so := Nat.ne_of_lt (hl3 _ mc)
    clear N6 hF6 hap6 hso hother mI6 ms6 hT5 hT5' hne5 hsub5 mI mc mK mL
    obtain ⟨tl, htl⟩ : ∃ tl, tl = ledL ++ (ledK ++ nr) := ⟨_, rfl⟩
    rw [← htl] at N7
    have oc1 : ∀ p ∈ tl, @Ne Nat p.1 _ := fun p hp => by
      rw [htl] at hp
      rcases List.mem_append.mp hp with hp | hp
      · exact hcL p hp
      · rcases List.mem_append.mp hp with hp | hp
        · exact hcK p hp
        · exact (hnr p hp).1
    k_steps
    rename_i h8 o8 F8 N8 d8
    unfold Stop
    have hne8 : ∀ p ∈ (s1.heap.objs.size + 1, o8) :: (ledK ++ nr), p.1 ≠ 271 := fun p hp => by
      rcases List.mem_cons.mp hp with rfl | hp
      · have := l00.2; show @Ne Nat (s1.heap.objs.size + 1) 271; omega
      · rcases List.mem_append.mp hp with hp | hp
        · exact hLK p hp
        · exact (hnr p hp).2.1
    have N8' := news_sub (news := ledL ++ (s1.heap.objs.size + 1, o8) :: (ledK ++ nr)) N8 (fun p hp => by
      rw [htl]
      rcases List.mem_append.mp hp with hp | hp
      · exact .tail _ (List.mem_append_left _ hp)
      · rcases List.mem_cons.mp hp with rfl | hp
        · exact .head _
        · exact .tail _ (List.mem_append_right _ hp))
    refine kla_eval rfl ?_
    refine lam_tab (pos := lPos) (qual := lQual) (clos := [(Str.ofString "frame", s1.heap.objs.size + 1)]) F8 T0 codeHd rfl N8' hTL hne8 rfl fun f9 c9 ctv9 ledL' h9 tk9 F9 N9 hT9 l9 k9 => ?_
    have kI9 : ∀ p ∈ ledL', p.1 ≠ I := k9 I ⟨_, List.mem_append_right _ (.tail _ (List.mem_append_right _ mI7)), rfl⟩ hIL
    have kso9 : ∀ p ∈ ledL', p.1 ≠ so := k9 so ⟨_, List.mem_append_right _ (.tail _ (List.mem_append_right _ ms7)), rfl⟩ hLso
    have k2669 : ∀ p ∈ ledL', p.1 ≠ 266 := k9 266 (by
      obtain ⟨ps, hps, _⟩ := hTK.head
      exact ⟨_, List.mem_append_right _ (.tail _ (List.mem_append_left _ hps)), rfl⟩) hKL
    obtain ⟨w9, N9', mf9, mc9, mL9, mK9, mr9⟩ := led_open2 N9
    obtain ⟨oc9, vs9, t9, he9, hdd9, hv9⟩ := id hT9
    have mo9 : (c9, oc9) ∈ w9 := mL9 _ (by rw [he9]; exact .tail _ (.head _))
    have hF9 := hF7.mono mr9
    have hT9' := hT7.mono' mr9
    obtain ⟨rl9, q1, q2, q3, q4, q5, tvs, q6, hta9, hrl9, hrw9⟩ := id hT9'
    have htv : tvs.length = rows.length := forall2_len hrw9
    have mf9' : (f9, kla_obj "<lambda>" lQual noParams (.Call (.Name "check_frame" { line := 174, col := 35, endLine := 174, endCol := 46 }) [.Name "frame" { line := 174, col := 47, endLine := 174, endCol := 52 }] [] { line := 174, col := 35, endLine := 174, endCol := 53 }) (lamScope "frame" "check_frame") [("frame", s1.heap.objs.size + 1)] _ c9 ctv9) ∈ w9 := mf9
    clear mf9
    have hC9 := fun prog w p loose mean mg mb => lamL (prog := prog) (w := w) (p := p) (loose := loose) (mean := mean) (mg := mg) (mb := mb) mf9' mc9 d8 mo9 hdd9 hv9 hF9 hko.1 hlen
    clear N9 N8 N8' hF7 hT7 F8 htl oc1
    k_steps
    unfold Stop
    k_dflt (refine' refused0 B0 ?k1 X0 T0 ?k5 ?k6 mf9' (hC9 _ _ _ _ _ _ _) ?k12 ?k13 ?_; (case k1 => k_asm); (case k6 => k_asm); (case k5 => exact rfl); (case k12 => ktr_room); (case k13 => ktr_units))
    intro b1 h10 tk10 hb1 F10 N10
    (try dsimp only)
    (try k_fold)
    k_steps
    unfold Stop
    k_dflt (refine' is_let_spec B0 ?k1 X0 T0 ?k5 ?k6 hT9' hko hlen ?k12 ?k13 ?_; (case k1 => k_asm); (case k6 => k_asm); (case k5 => exact rfl); (case k12 => ktr_room); (case k13 => ktr_units))
    intro b2 h11 tk11 hb2 F11 N11
    (try dsimp only)
    (try k_fold)
    k_steps
    unfold Stop
    k_dflt (refine' row_spec B0 ?k1 X0 T0 ?k5 ?k6 hF9 hlen ?k12 ?k13 ?_; (case k1 => k_asm); (case k6 => k_asm); (case k5 => exact rfl); (case k12 => ktr_room); (case k13 => ktr_units))
    intro ra led12 h12 tk12 F12 N12 hT12 hap12
    (try dsimp only)
    (try k_fold)
    have hT12' := hT9'.mono' (fun p hp => List.mem_append_right led12 hp)
    have hta12 := List.mem_append_right led12 hta9
    have hrl12 := List.mem_append_right led12 hrl9
    k_steps
    unfold Stop
    k_dflt (refine' told_same ?zN1 hT12 hT12' hko ?zu1 ?_; (case zN1 => k_asm); (case zu1 => (have hcL9 := cLine_is; simp only [units_deeper, units_caller]; omega)))
    k_steps
    unfold Stop
    k_dflt (refine test_join (by assumption) (by assumption) (isTrue_and ?_) ?_)
    · k_steps
      unfold Stop
      k_dflt (refine' item_at (News.isList ?zN2 ?zq2) ?zh1 ?zh2 ?zh3 ?_ ?zh4; (case zN2 => k_asm); (case zq2 => exact hta12); (case zh1 => decide); (case zh2 => decide); (case zh3 => exact rfl); (case zh4 => with_reducible exact subsc_const); k_whole)
      k_steps
      unfold Stop
      k_dflt (refine' len_list (News.isList ?zN3 ?zq3) ?zh5 ?_; (case zN3 => k_asm); (case zq3 => exact hrl12); (case zh5 => (rw [List.size_toArray]; omega)); k_whole)
      have hF12 := hF9.mono (fun p hp => List.mem_append_right led12 hp)
      k_steps
      all_goals try unfold Stop
      any_goals (k_dflt (refine' places_spec B0 ?zk1 X0 T0 ?zk2 ?zk3 hF12 hT12' hlen ?zk4 ?zk5 ?_; (case zk1 => k_asm); (case zk3 => k_asm); (case zk2 => exact rfl); (case zk4 => ktr_room); (case zk5 => ktr_units)); intro h13 tk13 F13 N13; (try dsimp only); (try k_fold); k_steps)
      any_goals (k_dflt (exact JPost.intro (by assumption) (by assumption)))
    intro h13 tk13 F13 N14
    (try dsimp only)
    (try k_fold)
    k_steps
    unfold Stop
    obtain ⟨r14, N14', hne14, hin14, _⟩ := apart_one (c := so) (o := o5) N14 (List.mem_append_right _ (mr9 _ ms7))
    k_dflt (refine take_spec B0 (by k_asm) X0 T0 (by exact rfl) N14' .head hs5 hne14 (by decide) (by decide) (by ktr_room) (by ktr_units) ?_)
    intro d15 t15 o15 h15 tk15 F15 N15 hs15 hd15 hd15'
    (try dsimp only)
    (try k_fold)
    k_steps
    unfold Stop
    have N16 := led_kinds N15 hin14 (fun p hp => List.mem_append_right _ (mK9 p hp)) hKso (List.mem_append_right _ mc9) hcso (List.mem_append_right _ (mr9 _ mI7)) hIso (fun p hp => List.mem_append_right _ (mL9 p hp)) kso9
    k_dflt (refine kinds_spec B0 (by k_asm) X0 T0 (by exact rfl) CK N16 hTK (led_ne266 h266so h266c h266I k2669) (by ktr_room) (by ktr_units) ?_)
    intro ledK' h17 tk17 F17 N17 hTK' kK
    have kIK : ∀ p ∈ ledK', p.1 ≠ I := kK I ⟨_, List.mem_append_right _ (.tail _ (.tail _ (.head _))), rfl⟩ hIK
    have ksoK : ∀ p ∈ ledK', p.1 ≠ so := kK so ⟨_, List.mem_append_right _ (.head _), rfl⟩ hKso
    (try dsimp only)
    (try k_fold)
    k_steps
    unfold Stop
    have N17b := ‹News _ _ _ (ledK' ++ (so, o15) :: _)›
    obtain ⟨r18, N18, hne18, hin18, _⟩ := apart_one (c := so) (o := o15) N17b (List.mem_append_right _ (.head _))
    k_dflt (refine take_spec B0 (by k_asm) X0 T0 (by exact rfl) N18 .head hs15 hne18 (by decide) (by decide) (by ktr_room) (by ktr_units) ?_)
    intro many tm o19 h19 tk19 F19 N19 hs19 hm0 hm90
    (try dsimp only)
    (try k_fold)
    k_steps
    unfold Stop
    have N19b := ‹News _ _ _ ((so, o19) :: r18)›
    k_dflt (refine take_spec B0 (by k_asm) X0 T0 (by exact rfl) N19b .head hs19 hne18 (by decide) (by decide) (by ktr_room) (by ktr_units) ?_)
    intro sz0 ts o20 h20 tk20 F20 N20 hs20 hz0 hz12
    (try dsimp only)
    (try k_fold)
    k_steps
    unfold Stop
    k_dflt (refine parts_spec B0 (by k_asm) X0 T0 (by exact rfl) (by k_asm) hm0 hm90 (by omega) (by omega) (by ktr_room) (by ktr_units) ?_)
    intro h21 tk21 t21 F21 N21
    (try dsimp only)
    (try k_fold)
    k_steps
    unfold Stop
    k_dflt (refine parts_spec B0 (by k_asm) X0 T0 (by exact rfl) (by k_asm) hm0 hm90 (by omega) (by omega) (by ktr_room) (by ktr_units) ?_)
    intro h22 tk22 t22 F22 N22
    (try dsimp only)
    (try k_fold)
    k_steps
    refine TEnd.intro (news' := (s1.heap.objs.size + 1, o8) :: (ledK' ++ ledL')) (by k_asm) N22 (led_end hin18 ksoK hcso hIso kso9) (led_off hIc kIK kI9) ?_
    refine ⟨?_, o8, _, ledK', ledL', rfl, d8, hTK', hT9.ok⟩
    k_dflt (exact hj1)
  · rintro m₁ news₁ h tk ⟨hj1, oc, v₀, ledK, ledL, rfl, hoc, hTK, hTL⟩ F1 N1
    dsimp only
    obtain ⟨psK, hpK, _⟩ := hTK.head
    obtain ⟨psL, hpL, _⟩ := hTL.head
    have mpK : (266, tabObj psK) ∈ (s1.heap.objs.size + 1, oc) :: (ledK ++ ledL) := .tail _ (List.mem_append_left _ hpK)
    have mpL : (271, tabObj psL) ∈ (s1.heap.objs.size + 1, oc) :: (ledK ++ ledL) := .tail _ (List.mem_append_right _ hpL)
    k_steps
end
end Mine
theorem PySem.Challenge.cw_nz0245_01_holds : PySem.Challenge.rw_nz0245_01.Holds := by
  exact Mine.T
