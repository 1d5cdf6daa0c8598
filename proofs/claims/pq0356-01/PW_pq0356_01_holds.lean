import PyProof.Rows.All
import Wide.All
import OpenK.AllK
import Wide.FinOn
import PySem.Challenge.RW_pq0356_01
open PySem PySem.W PyProof.Rows
set_option Elab.async false
namespace Mine
set_option maxRecDepth 100000
set_option maxHeartbeats 8000000
namespace A
def tw2619348551767789423 : Nat := 0
def tw17533171104167656692 : Nat := 0
def tw6736632225956253418 : Nat := 0
def tw17450021942065222286 : Nat := 0
def tw454156877816305181 : Nat := 0
def tw3066193992518548936 : Nat := 0
def tw18383877511592201330 : Nat := 0
def tw16485977007236088438 : Nat := 0
def tw6426903748850052672 : Nat := 0
def tw2222215544495774573 : Nat := 0
def tw3654763294589197619 : Nat := 0
def tw15885450162918546610 : Nat := 0
def tw5560385108016389688 : Nat := 0
def tw17974276096901714202 : Nat := 0
def tw5707712392376172131 : Nat := 0
def tw17940226598273787899 : Nat := 0
def tw9799238788583708911 : Nat := 0
def tw1350799735665071453 : Nat := 0
def tw13845670261993937712 : Nat := 0
def tw2544091147090642257 : Nat := 0
def tw11340337885095166789 : Nat := 0
def tw5588202558272498543 : Nat := 0
def tw9758157028798273370 : Nat := 0
def tw10026999487780401305 : Nat := 0
def tw17424345863993925839 : Nat := 0
def tw9082285773588267750 : Nat := 0
def tw12151756635490389249 : Nat := 0
def tw6657037248104155061 : Nat := 0
def tw11897118922746352891 : Nat := 0
def tw7247196760018094900 : Nat := 0
def tw672884048919502786 : Nat := 0
def tw13287877522203687028 : Nat := 0
def tw6401579719291748816 : Nat := 0
def tw11832268708022596914 : Nat := 0
def tw4560748696422708786 : Nat := 0
def tw8485663459731547911 : Nat := 0
def tw14366025554439220206 : Nat := 0
def tw12395845424632291712 : Nat := 0
def tw12158450374030200027 : Nat := 0
def tw10901255574886772337 : Nat := 0
def tw3861694111173036056 : Nat := 0
def tw16535110132781621208 : Nat := 0
def tw14634398094939643823 : Nat := 0
def tw17651492873127651204 : Nat := 0
def tw8239661464823253894 : Nat := 0
def tw17159585409254261676 : Nat := 0
def tw9754394483668566218 : Nat := 0
def tw261529181547533586 : Nat := 0
def tw6090040501322794734 : Nat := 0
def tw5382855383211550514 : Nat := 0
def tw5084927619942805773 : Nat := 0
def tw867601073348021404 : Nat := 0
def tw14830431077550058880 : Nat := 0
def tw13793740290128084465 : Nat := 0
def tw7213550733936855002 : Nat := 0
def tw14997724071728084365 : Nat := 0
def tw2089942979232059386 : Nat := 0
def tw3887939408106649945 : Nat := 0
def tw16390124962708608386 : Nat := 0
def tw8798309112693458513 : Nat := 0
def tw6326456089443429006 : Nat := 0
def tw13493969577955063362 : Nat := 0
def tw6988297453264352631 : Nat := 0
def tw4810340749108426247 : Nat := 0
def tw5262034439416279516 : Nat := 0
def tw7931925107142603840 : Nat := 0
def tw15428320744595819221 : Nat := 0
def tw16185400222075743487 : Nat := 0
def tw12497510047100357672 : Nat := 0
def tw6518170826622356715 : Nat := 0
def tw15803059323492890596 : Nat := 0
def tw2613062903429314190 : Nat := 0
def tw7477984813137573827 : Nat := 0
def tw3328889026964340747 : Nat := 0
def tw12472688952643809778 : Nat := 0
def tw322255719434633198 : Nat := 0
def tw9239368896403867088 : Nat := 0
def tw935492599192189830 : Nat := 0
def tw309172435901631055 : Nat := 0
def tw8959085532834759471 : Nat := 0
def tw10570652382700743470 : Nat := 0
def tw2897740034326501454 : Nat := 0
def tw11097179603413386876 : Nat := 0
def tw9280875747140711406 : Nat := 0
def tw18324720427601929890 : Nat := 0
def tw6375992693066043946 : Nat := 0
def tw12274183915114827936 : Nat := 0
def tw2438794844743039736 : Nat := 0
def tw7204998769056336605 : Nat := 0
def tw8850458078192684500 : Nat := 0
def tw6054148583450679396 : Nat := 0
def tw13944786943020688460 : Nat := 0
def tw4456024214130782563 : Nat := 0
def tw3097375979316279032 : Nat := 0
def tw8636750449342475021 : Nat := 0
def tw456445406938607765 : Nat := 0
def tw1687439242827765177 : Nat := 0
def tw11869306442199394323 : Nat := 0
def tw6761852518884551561 : Nat := 0
def tw16845677339596616797 : Nat := 0
def tw15151754272333723087 : Nat := 0
def tw6821940560506917731 : Nat := 0
def tw8404596279289937444 : Nat := 0
def tw6762559507777683261 : Nat := 0
def tw12306416302495383327 : Nat := 0
def tw3225541090127029038 : Nat := 0
def tw15666455104928787398 : Nat := 0
def tw7080075984915395734 : Nat := 0
def tw2361301986726502171 : Nat := 0
def tw6605496004340219318 : Nat := 0
def tw4395588021251836008 : Nat := 0
def tw9004470140057946426 : Nat := 0
def tw6699378863078117242 : Nat := 0
def tw5646922470258286333 : Nat := 0
def tw6413827937888420907 : Nat := 0
def tw5049246820181978470 : Nat := 0
def tw14611287644896202037 : Nat := 0
def tw7317773473285054138 : Nat := 0
def tw2249903572674017780 : Nat := 0
def tw14507971579009011674 : Nat := 0
def tw13135787353815353499 : Nat := 0
def tw10072462647798173283 : Nat := 0
def tw601494962873719569 : Nat := 0
def tw14410150575481013492 : Nat := 0
def tw855821209269619670 : Nat := 0
def tw3903012645427503818 : Nat := 0
def tw14629264357903858953 : Nat := 0
def tw1850544794829512938 : Nat := 0
def tw1043431010513513991 : Nat := 0
def tw3463253621172399337 : Nat := 0
def tw4087684679297134874 : Nat := 0
def tw5063577495763476793 : Nat := 0
def tw1759470579768173563 : Nat := 0
def tw18102334534514338727 : Nat := 0
def tw1336414390081735327 : Nat := 0
def tw17265793024436209032 : Nat := 0
def tw5763680618848955811 : Nat := 0
def tw282784265092047587 : Nat := 0
def tw8944927634293200873 : Nat := 0
def tw8556327521946648191 : Nat := 0
def tw17575380989107315287 : Nat := 0
def tw9806474721242631386 : Nat := 0
def tw15334364220653277015 : Nat := 0
def tw17387989551417737535 : Nat := 0
def tw2016455015085742388 : Nat := 0
def tw13409919585580966994 : Nat := 0
def tw17081493621715386561 : Nat := 0
def tw3901768462942692084 : Nat := 0
def tw15356198093266163368 : Nat := 0
def tw850267871183069548 : Nat := 0
def tw918678080316331608 : Nat := 0
def tw10862360618332259451 : Nat := 0
def tw3520101585507065111 : Nat := 0
def tw12770712744205445925 : Nat := 0
def tw12087615361589374803 : Nat := 0
def tw2486571173102219427 : Nat := 0
def tw1781749498118831666 : Nat := 0
def tw2317631421645595598 : Nat := 0
def tw14042563253279214323 : Nat := 0
def tw419857673636412122 : Nat := 0
def tw15767455170045860819 : Nat := 0
def tw12393130970048210124 : Nat := 0
def tw17608226932395296344 : Nat := 0
def tw17814693643189623775 : Nat := 0
def tw12290213792503615786 : Nat := 0
def tw1745045378965530598 : Nat := 0
def tw15462925542293431403 : Nat := 0
def tw10546698098467288276 : Nat := 0
def tw13565346996315856338 : Nat := 0
def tw16532852655643433954 : Nat := 0
def tw270732706397237368 : Nat := 0
def tw13986006028418849661 : Nat := 0
def tw6786231234972828351 : Nat := 0
def tw12249154782579388875 : Nat := 0
def tw7872350479427503936 : Nat := 0
def tw1413794798306275375 : Nat := 0
def tw16551175315185256443 : Nat := 0
def tw12793510590169322991 : Nat := 0
def tw5614519740762299647 : Nat := 0
def tw246557083352513423 : Nat := 0
def tw1311372485265928699 : Nat := 0
def tw6440035876160669845 : Nat := 0
def tw11153857568920386817 : Nat := 0
def tw16803136714847707870 : Nat := 0
def tw4086698677121603571 : Nat := 0
def tw14524312679804792030 : Nat := 0
def tw8500985856041522138 : Nat := 0
def tw6731169497884731909 : Nat := 0
def tw12821605638087770355 : Nat := 0
def tw5280557442100251414 : Nat := 0
def tw12614480925648416948 : Nat := 0
def tw3905709458322391898 : Nat := 0
def tw7582566860289189841 : Nat := 0
def tw7488790210862928811 : Nat := 0
def tw12211653732536415464 : Nat := 0
def tw17321946786577117554 : Nat := 0
def tw4009059471814248442 : Nat := 0
def tw10494816253670512308 : Nat := 0
def tw10525145064990756788 : Nat := 0
def tw3647428511524963837 : Nat := 0
def tw7127275468067898172 : Nat := 0
def tw11782766393690192119 : Nat := 0
def tw7648266291768296243 : Nat := 0
def tw8594346847490577747 : Nat := 0
def tw8285930635959753072 : Nat := 0
def tw10141975391189381084 : Nat := 0
def tw15502482903130430138 : Nat := 0
def tw5909507863118191236 : Nat := 0
def tw8346830044339109405 : Nat := 0
def tw4879858339848890682 : Nat := 0
def tw1357503688540234777 : Nat := 0
def tw15366226121209323186 : Nat := 0
def tw8021711566281527607 : Nat := 0
def tw703404535178680617 : Nat := 0
def tw11757830568777181861 : Nat := 0
def tw8333188820563407583 : Nat := 0
def tw12040064504531973785 : Nat := 0
def tw1195494609962619170 : Nat := 0
def tw2578747549972661880 : Nat := 0
def tw13063777383608524679 : Nat := 0
def tw10788869272497965127 : Nat := 0
def tw2428253107937286940 : Nat := 0
def tw4836988410038608305 : Nat := 0
def tw7466347491083085377 : Nat := 0
def tw4287973789179061465 : Nat := 0
def tw10623492163851505980 : Nat := 0
def tw16604534908744977515 : Nat := 0
def tw3406307317188581805 : Nat := 0
def tw8519229878729342897 : Nat := 0
def tw7439115974936942684 : Nat := 0
def tw8855670605215441267 : Nat := 0
def tw5459117835421027159 : Nat := 0
def tw13275002418022715203 : Nat := 0
def tw6499468740511960751 : Nat := 0
def tw10139585291856782324 : Nat := 0
def tw2655827412422658475 : Nat := 0
def tw16009809160280094434 : Nat := 0
def tw16243684451158502766 : Nat := 0
def tw7656298970873689217 : Nat := 0
def tw18171756525254187846 : Nat := 0
def tw9330461196102357999 : Nat := 0
def tw17557972708600191574 : Nat := 0
def tw15919784930614144955 : Nat := 0
def tw10202860995296317453 : Nat := 0
def tw4851068541086966649 : Nat := 0
def tw3561405718836670831 : Nat := 0
def tw15820644819769687525 : Nat := 0
def tw12642816424398213990 : Nat := 0
def tw10566577188614696648 : Nat := 0
end A
set_option Elab.async true in
theorem A : True := by
  first
  | exact (with_decl_name% Mine.A.hd (have x : (fun _ : PySem.Challenge.rw_pq0356_01.Holds => True) (by set_option Elab.async false in (w_on; o_law; k_head; (case hw => w_witness2); fail)) := trivial; x))
  | trivial
theorem A2 : True := trivial
namespace A
open_top hd for PySem.Challenge.rw_pq0356_01
end A
open A
open PySem.Calls PySem.Spec
set_option linter.unusedSimpArgs false
set_option linter.unusedVariables false
local macro_rules | `(tactic| walk_at $s:str) => do
  let t := Lean.Syntax.mkStrLit ("~" ++ s.getString)
  `(tactic| k_extra $t)
noncomputable abbrev PR : Program := Challenge.rw_pq0356_01.row.prog
noncomputable abbrev Lo : List Str := looseW hd.view_39 [Str.ofString "SUMS", Str.ofString "RELATIONS", Str.ofString "JUNCTIONS"]

/-- an own CheckFault is in flight towards the frame on top of `l` -/
noncomputable def Flies (base : Heap) (l : List Env) (h₀ : Heap) (L : Addr) (m : Str → Option Value) (e : Addr) (h : Heap) : Prop :=
  ∃ g, Fr h₀ L g m ∧ g.UpToSlots h ∧ RaisedN base l e (.ref 44) [] h

/-- the contract of a call: `fr` frames and `8 * fr` units of room; `Post r news'`; it may raise a CheckFault where `Exc` -/
noncomputable def Tel (w : World) (f : Addr) (vs : List Value) (fr : Nat) (news : List (Addr × Obj)) (Post : Value → List (Addr × Obj) → Prop) (Exc : Prop) : Prop :=
  ∀ (mean : ExcName → Option Value) (mg mb : Str → Option Value) (dp un : Nat) (gd : Option (List Code)) (cn : Str) (cs : Scope) (a : Addr) (ccd : Value) (cl : List (Str × Addr)) (outer : List Env) (A₀ : Around) (base h₀ : Heap) (L : Addr) (m : Str → Option Value) (s : Shared)
    (Q E : Value → Shared → Prop),
    Below A₀ base outer h₀ → Fr h₀ L s.heap m → (hd.heap_39 w.params).In h₀ → News h₀ L s.heap news → Top hd.view_39 Lo mean mg mb h₀ → cs.kind = .function → dp + fr < recursionLimit → un + 8 * fr < cLine →
    (∀ r news' h' tk', Fr h₀ L h' m → News h₀ L h' news' → Post r news' → Q r { s with heap := h', toks := tk' }) →
    (Exc → ∀ e h' tk', Flies base (envX cn cs L a ccd cl :: outer) h₀ L m e h' → E (.ref e) { s with heap := h', toks := tk' }) →
    wpAny (model PR w) (ktrTop dp un gd cn cs L a ccd cl outer) (call (.ref f) vs) Q E s

theorem foldP {p : Prop} (k : ∀ G : Prop, (p → G) → G) : p := k p id
theorem and_go {a b p : Prop} (h : a ∧ b) (k : a → b → p) : p := k h.1 h.2
theorem rm0 {dp k R : Nat} (h : dp + k < R) : dp < R := Nat.lt_of_le_of_lt (Nat.le_add_right _ _) h
theorem rm1 {dp a b k R : Nat} (h : dp + k < R) (hk : Nat.ble (a + b) k = true) : dp + a + b < R := by
  rw [Nat.add_assoc]; exact Nat.lt_of_le_of_lt (Nat.add_le_add_left (Nat.le_of_ble_eq_true hk) _) h
theorem rm2 {dp a b c n fr R : Nat} (hf : n ≤ fr) (h : dp + (fr + c) < R) (hk : Nat.ble (a + b) (n + c) = true) : dp + a + b < R := by
  have := Nat.le_of_ble_eq_true hk; omega
theorem rm3 {dp a c fr R : Nat} (h : dp + (fr + c) < R) (hk : Nat.ble a c = true) : dp + a + fr < R := by
  have := Nat.le_of_ble_eq_true hk; omega
theorem um2 {un a b c n fr C : Nat} (hf : n ≤ fr) (h : un + 8 * (fr + c) < C) (hk : Nat.ble (a + b) (8 * (n + c)) = true) : un + a + b < C := by
  have := Nat.le_of_ble_eq_true hk; omega
theorem um3 {un a c fr C : Nat} (h : un + 8 * (fr + c) < C) (hk : Nat.ble a (8 * c) = true) : un + a + 8 * fr < C := by
  have := Nat.le_of_ble_eq_true hk; omega
theorem cj0 {p q : Prop} (h : p ∧ q) : p := h.1
theorem cj1 {a0 p q : Prop} (h : a0 ∧ p ∧ q) : p := h.2.1
theorem cz1 {a0 p : Prop} (h : a0 ∧ p) : p := h.2
theorem cj2 {a0 a1 p q : Prop} (h : a0 ∧ a1 ∧ p ∧ q) : p := h.2.2.1
theorem cz2 {a0 a1 p : Prop} (h : a0 ∧ a1 ∧ p) : p := h.2.2
theorem cj3 {a0 a1 a2 p q : Prop} (h : a0 ∧ a1 ∧ a2 ∧ p ∧ q) : p := h.2.2.2.1
theorem cz3 {a0 a1 a2 p : Prop} (h : a0 ∧ a1 ∧ a2 ∧ p) : p := h.2.2.2
theorem cj4 {a0 a1 a2 a3 p q : Prop} (h : a0 ∧ a1 ∧ a2 ∧ a3 ∧ p ∧ q) : p := h.2.2.2.2.1
theorem cz4 {a0 a1 a2 a3 p : Prop} (h : a0 ∧ a1 ∧ a2 ∧ a3 ∧ p) : p := h.2.2.2.2
theorem cj5 {a0 a1 a2 a3 a4 p q : Prop} (h : a0 ∧ a1 ∧ a2 ∧ a3 ∧ a4 ∧ p ∧ q) : p := h.2.2.2.2.2.1
theorem cz5 {a0 a1 a2 a3 a4 p : Prop} (h : a0 ∧ a1 ∧ a2 ∧ a3 ∧ a4 ∧ p) : p := h.2.2.2.2.2
theorem cj6 {a0 a1 a2 a3 a4 a5 p q : Prop} (h : a0 ∧ a1 ∧ a2 ∧ a3 ∧ a4 ∧ a5 ∧ p ∧ q) : p := h.2.2.2.2.2.2.1
theorem cz6 {a0 a1 a2 a3 a4 a5 p : Prop} (h : a0 ∧ a1 ∧ a2 ∧ a3 ∧ a4 ∧ a5 ∧ p) : p := h.2.2.2.2.2.2
theorem cj7 {a0 a1 a2 a3 a4 a5 a6 p q : Prop} (h : a0 ∧ a1 ∧ a2 ∧ a3 ∧ a4 ∧ a5 ∧ a6 ∧ p ∧ q) : p := h.2.2.2.2.2.2.2.1
theorem cz7 {a0 a1 a2 a3 a4 a5 a6 p : Prop} (h : a0 ∧ a1 ∧ a2 ∧ a3 ∧ a4 ∧ a5 ∧ a6 ∧ p) : p := h.2.2.2.2.2.2.2
theorem rn1 {dp a k R : Nat} (h : dp + k < R) (hk : Nat.ble a k = true) : dp + a < R := Nat.lt_of_le_of_lt (Nat.add_le_add_left (Nat.le_of_ble_eq_true hk) _) h
theorem rn3 {dp a b c k R : Nat} (h : dp + k < R) (hk : Nat.ble (a + b + c) k = true) : dp + a + b + c < R := by
  have := Nat.le_of_ble_eq_true hk; omega
theorem rf1 {dp a c n fr R : Nat} (h : dp + (fr + c) < R) (hf : n ≤ fr) (hk : Nat.ble a (n + c) = true) : dp + a < R := by
  have := Nat.le_of_ble_eq_true hk; omega
theorem rf2 {dp a b c n fr R : Nat} (h : dp + (fr + c) < R) (hf : n ≤ fr) (hk : Nat.ble (a + b) (n + c) = true) : dp + a + b < R := rm2 hf h hk
theorem rf3 {dp a b d c n fr R : Nat} (h : dp + (fr + c) < R) (hf : n ≤ fr) (hk : Nat.ble (a + b + d) (n + c) = true) : dp + a + b + d < R := by
  have := Nat.le_of_ble_eq_true hk; omega
theorem uf2 {un a b c n fr C : Nat} (h : un + 8 * (fr + c) < C) (hf : n ≤ fr) (hk : Nat.ble (a + b) (8 * (n + c)) = true) : un + a + b < C := um2 hf h hk
theorem uf3 {un a b d c n fr C : Nat} (h : un + 8 * (fr + c) < C) (hf : n ≤ fr) (hk : Nat.ble (a + b + d) (8 * (n + c)) = true) : un + a + b + d < C := by
  have := Nat.le_of_ble_eq_true hk; omega
local macro_rules | `(tactic| omega) => `(tactic| k_extra "om9")
theorem reg_words_Lines : True := by
  k_with_none
  w_top off
  k_with "~@k_all" => first | assumption | exact lt_ne (by assumption) | exact gt_ne (by assumption) | (refine' List.forall_mem_append.mpr ⟨?q9a, ?q9b⟩; (case q9a => k_all); (case q9b => k_all))
  k_with "~call builtin:len" => (k_here; (with_reducible show wpAny _ _ (call (Value.builtin "len") [Value.ref _]) _ _ _); (refine KM.len_K (by k_asm) (by k_dflt k_mem) rfl (by simp; omega) ?_))
  k_with "~@k_room" => ((try simp only [depth_mark, depth_under_make, depth_under_kw, depth_in1, depth_deeper, depth_caller]); (try dsimp only [ktrTop]); omega)
  k_with "~@k_units" => ((have hcL9 := cLine_is); (try simp only [units_in1, units_deeper, Around.mark_units, units_caller]); (try dsimp only [ktrTop]); omega)
  trivial
theorem IntsAre.at {vs : List Value} {ns : List Int} (h : IntsAre vs ns) : ∀ {k : Nat}, k < vs.length → ∃ x t, vs[k]? = some (.int x t) := by
  induction h with
  | nil => intro k hk; exact absurd hk (Nat.not_lt_zero _)
  | cons n t r ih =>
    intro k hk
    cases k with
    | zero => exact ⟨n, t, rfl⟩
    | succ k => exact ih (Nat.lt_of_succ_lt_succ hk)
theorem item_at {prog : Program} {w : World} {A : Around} {E : Value → Shared → Prop} {s : Shared} {h₀ : Heap} {L l : Addr} {news : List (Addr × Obj)} {vs : List Value} {ns : List Int} {n : Nat} {k : Int} {u : Tok} {value slice : Expr} {Q : Value → Shared → Prop}
    (N : News h₀ L s.heap news) (hm : (l, listOf vs.toArray n) ∈ news) (hi : IntsAre vs ns) (h0 : 0 ≤ k) (hk : k < (vs.length : Int)) (hk' : k < 2 ^ 63) (h : ∀ x t, Q (.int x t) s)
    (hs : subscripted slice false (.ref l) (.int k u) = operate [.ref l, .int k u] (getItem (.ref l) (.int k u)) := by with_unfolding_all rfl) (hg : ∀ r, letTemporaryGo value (.ref l) r = pure () := by intro _; with_unfolding_all rfl) :
    wpAny (model prog w) A (subscriptTail value slice (.ref l) (.int k u)) Q E s := by
  obtain ⟨x, t, e⟩ := IntsAre.at hi (k := k.toNat) (by omega)
  exact item_listL (News.isList N hm) h0 hk' e (h x t) hs hg
theorem lt_ne {d : Addr} {l : List (Addr × Obj)} (h : AllLt d l) : ∀ p ∈ l, p.1 ≠ d := fun p hp => Nat.ne_of_lt (tb_ltOf h p hp)
theorem gt_ne {d : Addr} {l : List (Addr × Obj)} (h : ∀ p ∈ l, d < p.1) : ∀ p ∈ l, p.1 ≠ d := fun p hp => (Nat.ne_of_lt (h p hp)).symm
local macro_rules | `(tactic| k_all) => `(tactic| k_extra "~@k_all")
theorem ownOff_nil {own : List (Addr × Obj)} : OwnOff own [] := fun _ _ _ hb => nomatch hb
theorem ownOff_cons {own : List (Addr × Obj)} {a : Addr} {l : List Addr} (h : ∀ p ∈ own, p.1 ≠ a) (r : OwnOff own l) : OwnOff own (a :: l) := fun p hp b hb => by
  rcases List.mem_cons.mp hb with rfl | hb
  · exact h p hp
  · exact r p hp b hb
theorem ownOff_app {own : List (Addr × Obj)} {l r : List Addr} (h : OwnOff own l) (k : OwnOff own r) : OwnOff own (l ++ r) := fun p hp b hb => (List.mem_append.mp hb).elim (h p hp b) (k p hp b)
/-- a walk stands still here -/
noncomputable def Stop (P : Prop) : Prop := P
theorem Stop.out {P : Prop} (h : Stop P) : P := h
theorem Stop.on {P : Prop} (h : P) : Stop P := h
noncomputable def OffL (own nx : List (Addr × Obj)) : Prop := ∀ p ∈ own, ∀ q ∈ nx, p.1 ≠ q.1
theorem off_of {own nx : List (Addr × Obj)} (h : OffL own nx) : OwnOff own (nx.map (·.1)) := fun p hp b hb => by
  obtain ⟨q, hq, rfl⟩ := List.mem_map.mp hb
  exact h p hp q hq
theorem offL_nil {own : List (Addr × Obj)} : OffL own [] := fun _ _ _ hb => nomatch hb
theorem offL_cons {own : List (Addr × Obj)} {a : Addr × Obj} {l : List (Addr × Obj)} (h : ∀ p ∈ own, p.1 ≠ a.1) (r : OffL own l) : OffL own (a :: l) := fun p hp b hb => by
  rcases List.mem_cons.mp hb with rfl | hb
  · exact h p hp
  · exact r p hp b hb
theorem offL_app {own : List (Addr × Obj)} {l r : List (Addr × Obj)} (h : OffL own l) (k : OffL own r) : OffL own (l ++ r) := fun p hp b hb => (List.mem_append.mp hb).elim (h p hp b) (k p hp b)
theorem offL_sub {own l nx : List (Addr × Obj)} (h : OwnOff own (l.map (·.1))) (s : ∀ q ∈ nx, q ∈ l) : OffL own nx := fun p hp q hq => h p hp _ (List.mem_map.mpr ⟨q, s q hq, rfl⟩)
theorem offL_swap {a b : List (Addr × Obj)} (h : OffL a b) : OffL b a := fun p hp q hq e => h q hq p hp e.symm
theorem lt_ne2 {d x : Addr} {S : List (Addr × Obj)} (A : AllLt d S) (B : d < x) : ∀ p ∈ S, p.1 ≠ x := fun p hp => Nat.ne_of_lt (Nat.lt_trans (tb_ltOf A p hp) B)
theorem ne_all {d : Addr} {l own : List (Addr × Obj)} (h : ∀ p ∈ l, p.1 < d) (s : ∀ p ∈ own, p ∈ l) : ∀ p ∈ own, p.1 ≠ d := fun p hp => Nat.ne_of_lt (h p (s p hp))
theorem ne_allT {d : Addr} {l own : List (Addr × Obj)} (h : AllLt d l) (s : ∀ p ∈ own, p ∈ l) : ∀ p ∈ own, p.1 ≠ d := fun p hp => Nat.ne_of_lt (tb_ltOf h p (s p hp))
local macro_rules | `(tactic| k_room) => `(tactic| k_extra "~@k_room")
local macro_rules | `(tactic| k_units) => `(tactic| k_extra "~@k_units")
theorem reg_words_Sp : True := by
  k_with_none
  w_top off
  k_with "~@k_all" => first | assumption | exact lt_ne (by assumption) | exact gt_ne (by assumption) | (refine' List.forall_mem_append.mpr ⟨?q9a, ?q9b⟩; (case q9a => k_all); (case q9b => k_all))
  k_with "~call builtin:len" => (k_here; (with_reducible show wpAny _ _ (call (Value.builtin "len") [Value.ref _]) _ _ _); (refine KM.len_K (by k_asm) (by k_dflt k_mem) rfl (by simp; omega) ?_))
  k_with "~@k_room" => ((try simp only [depth_mark, depth_under_make, depth_under_kw, depth_in1, depth_deeper, depth_caller]); (try dsimp only [ktrTop]); omega)
  k_with "~@k_units" => ((have hcL9 := cLine_is); (try simp only [units_in1, units_deeper, Around.mark_units, units_caller]); (try dsimp only [ktrTop]); omega)
  k_with "~subscriptTail" => (k_here; (with_reducible show wpAny _ _ (subscriptTail (Expr.Name _ _) (Expr.Subscript _ _ _) (Value.ref _) (Value.int _ _)) _ _ _); (refine item_at (by k_asm) (by k_dflt k_mem) (IntsAre.cons _ _ (by assumption)) (by simp; omega) (by simp at *; omega) (by simp; omega) ?_); intro z9x' z9t')
  trivial
section
theorem spoon (w : World) (j : Addr) (c many : Int) (t tm : Tok) (vs : List Value) (ns : List Int) (n : Nat) (news : List (Addr × Obj)) (hj : ∀ p ∈ news, p.1 ≠ j) (hi : IntsAre vs ns) (hc : 0 ≤ c) (hc' : c ≤ 100) (hl : vs.length ≤ 40) (hm : 2 ≤ many) (hm' : many ≤ 61) :
    Tel w 337 [.ref j, .int many tm] 5 ((j, listOf (.int c t :: vs).toArray n) :: news)
      (fun r news' => ∃ x tr t', r = .int x tr ∧ 0 ≤ x ∧ x < many ∧ news' = (j, listOf (.int (c + 1) t' :: vs).toArray n) :: news) False := by
  have lp : Challenge.rw_pq0356_01.foot = Challenge.rw_pq0356_01.foot ∧ hd.heap_39 = hd.heap_39 := by k_fill; exact ⟨rfl, rfl⟩
  clear lp
  intro mean mg mb dp un gd cn cs a ccd cl outer A₀ base h₀ L m s Q E B F X N T hk hdp hun hret _
  refine wpAny_call ?_
  k_dflt ktr_enter
  k_steps
  all_goals exact hret _ _ _ _ (by assumption) (by assumption) ⟨_, _, _, rfl, Int.fmod_nonneg_of_pos _ (by omega), Int.fmod_lt_of_pos _ (by omega), rfl⟩
end
/-- the name of the k-th statement function -/
noncomputable def fnm (k : Nat) : Str := Str.ofString "F" ++ Str.ofString (toString k)
/-- what stands in a body: names, references, signs, sums, products, the constant one -/
inductive Ex where
  | nm (z : Bool)
  | rf (k : Fin 12) (a : Ex)
  | ng (e : Ex)
  | bi (plus : Bool) (l r : Ex)
  | one
/-- what comes out -/
inductive Ty where
  | var
  | one
  | ng (t : Ty)
  | bi (plus : Bool) (l r : Ty)
noncomputable def nmS : Bool → Str
  | true => Str.ofString "Z"
  | false => Str.ofString "X"
noncomputable def sgn : Bool → Str
  | true => Str.ofString "+"
  | false => Str.ofString "*"
noncomputable def sgnT : Bool → Str
  | true => Str.ofString "add"
  | false => Str.ofString "mul"
noncomputable def oneE : Dat := .tuple [.str (Str.ofString "real"), .int 1, .int 0]
noncomputable def oneT : Dat := .tuple [.str (Str.ofString "const"), .int 1, .tuple [.int 1, .int 0]]
noncomputable def Ex.dat : Ex → Dat
  | .nm z => .tuple [.str (Str.ofString "name"), .str (nmS z)]
  | .rf k a => .tuple [.str (Str.ofString "ref"), .str (fnm k.val), .list [a.dat]]
  | .ng e => .tuple [.str (Str.ofString "un"), .str (Str.ofString "-"), e.dat]
  | .bi p l r => .tuple [.str (Str.ofString "bin"), .str (sgn p), l.dat, r.dat]
  | .one => oneE
noncomputable def Ty.dat : Ty → Dat
  | .var => .tuple [.str (Str.ofString "var"), .int 1, .str (Str.ofString "Z")]
  | .one => oneT
  | .ng t => .tuple [.str (Str.ofString "neg"), .int 1, t.dat]
  | .bi p l r => .tuple [.str (sgnT p), .int 1, l.dat, r.dat]
noncomputable def askE (k : Fin 12) : Nat → Ex
  | 0 => .nm false
  | n + 1 => .rf k (askE k n)
/-- wraps of an expression, the i-th one of three -/
noncomputable def belE : Nat → Ex → Ex
  | 0, e => e
  | n + 1, e => if n % 3 < 2 then .ng (belE n e) else .bi true (belE n e) .one
noncomputable def belT : Nat → Ty → Ty
  | 0, t => t
  | n + 1, t => if n % 3 < 2 then .ng (belT n t) else .bi true (belT n t) .one
/-- the law's own constant one, as the top left it -/
noncomputable def kone : List (Addr × Obj) :=
  [(330, { cls := .type "tuple", data := .seq [Value.str (Str.ofString "const") 736, Value.int 1 737, Value.ref 329].toArray 0 }), (329, { cls := .type "tuple", data := .seq [Value.int 1 738, Value.int 0 739].toArray 0 })]
theorem kone_at {news : List (Addr × Obj)} : DatIn (kone ++ news) (.ref 330) oneT :=
  .tuple (.head _) (.cons (.str _ _) (.cons (.int _ _) (.cons (.tuple (.tail _ (.head _)) (.cons (.int _ _) (.cons (.int _ _) .nil))) .nil)))
section
variable {S : List (Addr × Obj)} {v : Value}
noncomputable abbrev tupO (vs : List Value) (n : Nat) : Obj := { cls := .type "tuple", data := .seq vs.toArray n }
theorem dstr {x : Str} (h : DatIn S v (.str x)) : ∃ t, v = .str x t := by cases h; exact ⟨_, rfl⟩
theorem dint {x : Int} (h : DatIn S v (.int x)) : ∃ t, v = .int x t := by cases h; exact ⟨_, rfl⟩
theorem dcons {vs : List Value} {d : Dat} {ds : List Dat} (h : DatAll S vs (d :: ds)) : ∃ u r, vs = u :: r ∧ DatIn S u d ∧ DatAll S r ds := by cases h with | cons a b => exact ⟨_, _, rfl, a, b⟩
theorem dnil {vs : List Value} (h : DatAll S vs []) : vs = [] := by cases h; rfl
theorem dtupn {ds : List Dat} (h : DatIn S v (.tuple ds)) : ∃ ad n vs, v = .ref ad ∧ (ad, tupO vs n) ∈ S ∧ DatAll S vs ds := by
  cases h with
  | tuple hm r => exact ⟨_, _, _, rfl, hm, r⟩
theorem dtup2 {a b : Dat} (h : DatIn S v (.tuple [a, b])) : ∃ ad n v1 v2, v = .ref ad ∧ (ad, tupO [v1, v2] n) ∈ S ∧ DatIn S v1 a ∧ DatIn S v2 b := by
  obtain ⟨ad, n, vs, e, hm, r⟩ := dtupn h
  obtain ⟨v1, vs, rfl, h1, r⟩ := dcons r
  obtain ⟨v2, vs, rfl, h2, r⟩ := dcons r
  obtain rfl := dnil r
  exact ⟨_, _, _, _, e, hm, h1, h2⟩
theorem dtup3 {a b c : Dat} (h : DatIn S v (.tuple [a, b, c])) : ∃ ad n v1 v2 v3, v = .ref ad ∧ (ad, tupO [v1, v2, v3] n) ∈ S ∧ DatIn S v1 a ∧ DatIn S v2 b ∧ DatIn S v3 c := by
  obtain ⟨ad, n, vs, e, hm, r⟩ := dtupn h
  obtain ⟨v1, vs, rfl, h1, r⟩ := dcons r
  obtain ⟨v2, vs, rfl, h2, r⟩ := dcons r
  obtain ⟨v3, vs, rfl, h3, r⟩ := dcons r
  obtain rfl := dnil r
  exact ⟨_, _, _, _, _, e, hm, h1, h2, h3⟩
theorem dtup4 {a b c d : Dat} (h : DatIn S v (.tuple [a, b, c, d])) : ∃ ad n v1 v2 v3 v4, v = .ref ad ∧ (ad, tupO [v1, v2, v3, v4] n) ∈ S ∧ DatIn S v1 a ∧ DatIn S v2 b ∧ DatIn S v3 c ∧ DatIn S v4 d := by
  obtain ⟨ad, n, vs, e, hm, r⟩ := dtupn h
  obtain ⟨v1, vs, rfl, h1, r⟩ := dcons r
  obtain ⟨v2, vs, rfl, h2, r⟩ := dcons r
  obtain ⟨v3, vs, rfl, h3, r⟩ := dcons r
  obtain ⟨v4, vs, rfl, h4, r⟩ := dcons r
  obtain rfl := dnil r
  exact ⟨_, _, _, _, _, _, e, hm, h1, h2, h3, h4⟩
theorem dlst1 {a : Dat} (h : DatIn S v (.list [a])) : ∃ ad n v1, v = .ref ad ∧ (ad, listOf [v1].toArray n) ∈ S ∧ DatIn S v1 a := by
  cases h with
  | list hm r =>
    obtain ⟨v1, vs, rfl, h1, r⟩ := dcons r
    obtain rfl := dnil r
    exact ⟨_, _, _, rfl, hm, h1⟩
/-- the shapes, read off -/
theorem Ex.nm_inv {z : Bool} (h : DatIn S v (Ex.nm z).dat) : ∃ ad n t1 t2, v = .ref ad ∧ (ad, tupO [.str (Str.ofString "name") t1, .str (nmS z) t2] n) ∈ S := by
  obtain ⟨ad, n, v1, v2, rfl, hm, h1, h2⟩ := dtup2 h
  obtain ⟨t1, rfl⟩ := dstr h1
  obtain ⟨t2, rfl⟩ := dstr h2
  exact ⟨_, _, _, _, rfl, hm⟩
theorem Ex.rf_inv {k : Fin 12} {a : Ex} (h : DatIn S v (Ex.rf k a).dat) : ∃ ad n t1 t2 al nl va, v = .ref ad ∧ (ad, tupO [.str (Str.ofString "ref") t1, .str (fnm k.val) t2, .ref al] n) ∈ S ∧ (al, listOf [va].toArray nl) ∈ S ∧ DatIn S va a.dat := by
  rw [Ex.dat] at h
  obtain ⟨ad, n, v1, v2, v3, rfl, hm, h1, h2, h3⟩ := dtup3 h
  obtain ⟨t1, rfl⟩ := dstr h1
  obtain ⟨t2, rfl⟩ := dstr h2
  obtain ⟨al, nl, va, rfl, hl, ha⟩ := dlst1 h3
  exact ⟨_, _, _, _, _, _, _, rfl, hm, hl, ha⟩
theorem Ex.ng_inv {e : Ex} (h : DatIn S v (Ex.ng e).dat) : ∃ ad n t1 t2 ve, v = .ref ad ∧ (ad, tupO [.str (Str.ofString "un") t1, .str (Str.ofString "-") t2, ve] n) ∈ S ∧ DatIn S ve e.dat := by
  rw [Ex.dat] at h
  obtain ⟨ad, n, v1, v2, v3, rfl, hm, h1, h2, h3⟩ := dtup3 h
  obtain ⟨t1, rfl⟩ := dstr h1
  obtain ⟨t2, rfl⟩ := dstr h2
  exact ⟨_, _, _, _, _, rfl, hm, h3⟩
theorem Ex.bi_inv {p : Bool} {l r : Ex} (h : DatIn S v (Ex.bi p l r).dat) : ∃ ad n t1 t2 vl vr, v = .ref ad ∧ (ad, tupO [.str (Str.ofString "bin") t1, .str (sgn p) t2, vl, vr] n) ∈ S ∧ DatIn S vl l.dat ∧ DatIn S vr r.dat := by
  rw [Ex.dat] at h
  obtain ⟨ad, n, v1, v2, v3, v4, rfl, hm, h1, h2, h3, h4⟩ := dtup4 h
  obtain ⟨t1, rfl⟩ := dstr h1
  obtain ⟨t2, rfl⟩ := dstr h2
  exact ⟨_, _, _, _, _, _, rfl, hm, h3, h4⟩
theorem Ex.one_inv (h : DatIn S v Ex.one.dat) : ∃ ad n t1 t2 t3, v = .ref ad ∧ (ad, tupO [.str (Str.ofString "real") t1, .int 1 t2, .int 0 t3] n) ∈ S := by
  rw [Ex.dat, oneE] at h
  obtain ⟨ad, n, v1, v2, v3, rfl, hm, h1, h2, h3⟩ := dtup3 h
  obtain ⟨t1, rfl⟩ := dstr h1
  obtain ⟨t2, rfl⟩ := dint h2
  obtain ⟨t3, rfl⟩ := dint h3
  exact ⟨_, _, _, _, _, rfl, hm⟩
theorem Ty.var_inv (h : DatIn S v Ty.var.dat) : ∃ ad n t1 t2 t3, v = .ref ad ∧ (ad, tupO [.str (Str.ofString "var") t1, .int 1 t2, .str (Str.ofString "Z") t3] n) ∈ S := by
  rw [Ty.dat] at h
  obtain ⟨ad, n, v1, v2, v3, rfl, hm, h1, h2, h3⟩ := dtup3 h
  obtain ⟨t1, rfl⟩ := dstr h1
  obtain ⟨t2, rfl⟩ := dint h2
  obtain ⟨t3, rfl⟩ := dstr h3
  exact ⟨_, _, _, _, _, rfl, hm⟩
theorem Ty.one_inv (h : DatIn S v Ty.one.dat) : ∃ ad n t1 t2 ad2 n2 t3 t4, v = .ref ad ∧ (ad, tupO [.str (Str.ofString "const") t1, .int 1 t2, .ref ad2] n) ∈ S ∧ (ad2, tupO [.int 1 t3, .int 0 t4] n2) ∈ S := by
  rw [Ty.dat, oneT] at h
  obtain ⟨ad, n, v1, v2, v3, rfl, hm, h1, h2, h3⟩ := dtup3 h
  obtain ⟨t1, rfl⟩ := dstr h1
  obtain ⟨t2, rfl⟩ := dint h2
  obtain ⟨ad2, n2, w1, w2, rfl, hm2, k1, k2⟩ := dtup2 h3
  obtain ⟨t3, rfl⟩ := dint k1
  obtain ⟨t4, rfl⟩ := dint k2
  exact ⟨_, _, _, _, _, _, _, _, rfl, hm, hm2⟩
theorem Ty.ng_inv {e : Ty} (h : DatIn S v (Ty.ng e).dat) : ∃ ad n t1 t2 ve, v = .ref ad ∧ (ad, tupO [.str (Str.ofString "neg") t1, .int 1 t2, ve] n) ∈ S ∧ DatIn S ve e.dat := by
  rw [Ty.dat] at h
  obtain ⟨ad, n, v1, v2, v3, rfl, hm, h1, h2, h3⟩ := dtup3 h
  obtain ⟨t1, rfl⟩ := dstr h1
  obtain ⟨t2, rfl⟩ := dint h2
  exact ⟨_, _, _, _, _, rfl, hm, h3⟩
theorem Ty.bi_inv {p : Bool} {l r : Ty} (h : DatIn S v (Ty.bi p l r).dat) : ∃ ad n t1 t2 vl vr, v = .ref ad ∧ (ad, tupO [.str (sgnT p) t1, .int 1 t2, vl, vr] n) ∈ S ∧ DatIn S vl l.dat ∧ DatIn S vr r.dat := by
  rw [Ty.dat] at h
  obtain ⟨ad, n, v1, v2, v3, v4, rfl, hm, h1, h2, h3, h4⟩ := dtup4 h
  obtain ⟨t1, rfl⟩ := dstr h1
  obtain ⟨t2, rfl⟩ := dint h2
  exact ⟨_, _, _, _, _, _, rfl, hm, h3, h4⟩
end
section
variable {prog : Program} {w : World} {A : Around} {E : Value → Shared → Prop} {s : Shared} {env : Env} {h₀ : Heap} {x : Str} {body : List Stmt} {Q : Flow → Shared → Prop}
noncomputable def LJ {σ : Type} (x : Str) (ps : σ → List (Str × Value)) (stored : List Str) (m₀ : Str → Option Value) (Inv : σ → List (Addr × Obj) → Prop) (m : Str → Option Value) (nx : List (Addr × Obj)) : Prop :=
  ∃ c, Inv c nx ∧ (∀ p ∈ ps c, m p.1 = some p.2) ∧ (∀ z, z ≠ x → (∀ p ∈ ps c, z ≠ p.1) → stored.contains z = false → m z = m₀ z)
set_option maxHeartbeats 1600000 in
theorem loop_range {σ : Type} {r : Addr} {b : Nat} {t₀ u₀ v₀ : Tok} {m₀ : Str → Option Value} {news : List (Addr × Obj)} (ps : σ → List (Str × Value)) (stored : List Str) (Inv : Nat → σ → List (Addr × Obj) → Prop) (c₀ : σ)
    (hh : A.handled = none) (hr : IsRange s.heap r 0 (b : Int) 1 t₀ u₀ v₀) (hb : (b : Int) < 2 ^ 62) (F : Fr h₀ env.locals s.heap m₀) (N : News h₀ env.locals s.heap news) (hi : Inv 0 c₀ news) (hk : ∀ p ∈ ps c₀, m₀ p.1 = some p.2)
    (turn : ∀ (i : Nat) (c : σ) nx t (u : Str → Option Value) h tk own, i < b → OwnOff own (nx.map (·.1)) → Inv i c nx →
      Fr h₀ env.locals h (fun y => if y = x then some (.int (i : Int) t) else kstB (fun z => if stored.contains z then u z else m₀ z) (ps c) y) → News h₀ env.locals h (nx ++ own) →
      wpAny (model prog w) A (execs body env) (InvPostG h₀ env.locals (LJ x ps stored m₀ (Inv (i + 1))) own { s with heap := h, toks := tk } Q) E { s with heap := h, toks := tk })
    (done : ∀ (c : σ) nx (u : Str → Option Value) h tk, Inv b c nx → Fr h₀ env.locals h (fun y => if y = x then u y else kstB (fun z => if stored.contains z then u z else m₀ z) (ps c) y) → News h₀ env.locals h nx → Q .next { s with heap := h, toks := tk }) :
    wpAny (model prog w) A (pyIter (.ref r)) (fun it s₂ => LoopAtV prog w A h₀ env x body Q E it s₂) E s := by
  have hsmall : Builtin.Range.small 0 (b : Int) 1 = true := small_one (by decide) (by decide) (by omega) hb
  have hsz : Builtin.Range.rangeSize 0 (b : Int) 1 = (b : Int) := by rw [rangeSize_nat]; omega
  refine wpAny_pyIter_range hr hsmall ?_
  have W : Walks prog w A s.heap.objs.size [s.heap.objs.size] [s.heap.objs.size] b (fun i v => i < b ∧ ∃ t, v = .int (0 + i * 1) t)
      (fun i h => IsRangeIter h s.heap.objs.size (0 + (i : Nat) * 1) ((b : Int) - (i : Nat)) 1) := (Walks.range hh _ 0 1 b).bound
  refine kdr_loop (fun i m nx => LJ x ps stored m₀ (Inv i) m nx) W (fun _ h => h) (fun _ h => h) ?_ ?_ ?_ ?_ (by show IsRangeIter _ _ _ _ _; rw [hsz]; simpa using Heap.get?_push_size _ rfl) (F.push _) (fun p hp => ⟨Heap.get?_push_of_some _ (N p hp).1, (N p hp).2⟩) ⟨c₀, hi, hk, fun _ _ _ _ => rfl⟩ ?_ ?_
  · intro i h hi b hb
    rw [List.mem_singleton.mp hb]
    exact ⟨_, hi⟩
  · intro hm
    exact absurd F.ns.lt ((List.mem_singleton.mp hm) ▸ Nat.lt_irrefl _)
  · intro b hb
    rw [List.mem_singleton.mp hb]
    exact next_is_new F
  · intro p hp hI
    exact absurd (Heap.lt_size (N p hp).1) ((List.mem_singleton.mp hI) ▸ Nat.lt_irrefl _)
  · rintro i v m₁ nx h tk own hi ⟨_, t, rfl⟩ hoff ⟨c, hc, h1, h2⟩ F₁ N₁
    have e1 : (0 : Int) + (i : Int) * 1 = (i : Int) := by omega
    rw [e1] at F₁
    exact turn i c nx t m₁ h tk own hi hoff hc (kst_fr h1 h2 F₁) N₁
  · rintro m₁ nx h tk ⟨c, hc, h1, h2⟩ F₁ N₁
    exact done c nx m₁ h tk hc (kst_frOut h1 h2 F₁) N₁
set_option maxHeartbeats 1600000 in
theorem loop_list {σ : Type} {l : Addr} {vs : List Value} {nn : Nat} {m₀ : Str → Option Value} {news : List (Addr × Obj)} (ps : σ → List (Str × Value)) (stored : List Str) (Inv : Nat → σ → List (Addr × Obj) → Prop) (c₀ : σ)
    (hh : A.handled = none) (hl : (l, listOf vs.toArray nn) ∈ news) (F : Fr h₀ env.locals s.heap m₀) (N : News h₀ env.locals s.heap news) (hi : Inv 0 c₀ news) (hk : ∀ p ∈ ps c₀, m₀ p.1 = some p.2)
    (turn : ∀ (i : Nat) (c : σ) nx v (u : Str → Option Value) h tk own, vs[i]? = some v → OwnOff own (nx.map (·.1)) → (l, listOf vs.toArray nn) ∈ nx → Inv i c nx →
      Fr h₀ env.locals h (fun y => if y = x then some v else kstB (fun z => if stored.contains z then u z else m₀ z) (ps c) y) → News h₀ env.locals h (nx ++ own) →
      wpAny (model prog w) A (execs body env) (InvPostG h₀ env.locals (fun m' nx' => (l, listOf vs.toArray nn) ∈ nx' ∧ LJ x ps stored m₀ (Inv (i + 1)) m' nx') own { s with heap := h, toks := tk } Q) E { s with heap := h, toks := tk })
    (done : ∀ (c : σ) nx (u : Str → Option Value) h tk, Inv vs.length c nx → Fr h₀ env.locals h (fun y => if y = x then u y else kstB (fun z => if stored.contains z then u z else m₀ z) (ps c) y) → News h₀ env.locals h nx → Q .next { s with heap := h, toks := tk }) :
    wpAny (model prog w) A (pyIter (.ref l)) (fun it s₂ => LoopAtV prog w A h₀ env x body Q E it s₂) E s := by
  refine kdl_iter (fun i m nx => LJ x ps stored m₀ (Inv i) m nx) hh hl F N ⟨c₀, hi, hk, fun _ _ _ _ => rfl⟩ ?_ ?_
  · rintro i v m₁ nx h tk own hv hoff hl' ⟨c, hc, h1, h2⟩ F₁ N₁
    exact turn i c nx v m₁ h tk own hv hoff hl' hc (kst_fr h1 h2 F₁) N₁
  · rintro m₁ nx h tk ⟨c, hc, h1, h2⟩ F₁ N₁
    exact done c nx m₁ h tk hc (kst_frOut h1 h2 F₁) N₁
noncomputable def LW {σ : Type} (ps : σ → List (Str × Value)) (stored : List Str) (m₀ : Str → Option Value) (Inv : σ → List (Addr × Obj) → Prop) (m : Str → Option Value) (nx : List (Addr × Obj)) : Prop :=
  ∃ c, Inv c nx ∧ (∀ p ∈ ps c, m p.1 = some p.2) ∧ (∀ z, (∀ p ∈ ps c, z ≠ p.1) → stored.contains z = false → m z = m₀ z)
theorem loop_while {σ : Type} {L : Addr} {test : Expr} {pos : Pos} {m₀ : Str → Option Value} {news : List (Addr × Obj)} (ps : σ → List (Str × Value)) (stored : List Str) (Inv : Nat → σ → List (Addr × Obj) → Prop) (n₀ : Nat) (c₀ : σ)
    (F : Fr h₀ L s.heap m₀) (N : News h₀ L s.heap news) (hi : Inv n₀ c₀ news) (hk : ∀ p ∈ ps c₀, m₀ p.1 = some p.2)
    (turn : ∀ (n : Nat) (c : σ) nx (u : Str → Option Value) h tk, Inv n c nx → Fr h₀ L h (fun y => kstB (fun z => if stored.contains z then u z else m₀ z) (ps c) y) → News h₀ L h nx →
      wpAny (model prog w) A (isTrue test env (eval test env)) (fun b s₂ =>
        if b = true then wpAny (model prog w) A (execs body env) (WhileStep2 h₀ L s (fun n => LW ps stored m₀ (Inv n)) Q n) E s₂ else Q .next s₂) E { s with heap := h, toks := tk })
    (hE : PassesOwn (model prog w) A env E := by passes_own) :
    wpAny (model prog w) A (exec (.While test body [] pos) env) Q E s := by
  refine While_inv2 (fun n m nx => LW ps stored m₀ (Inv n) m nx) F N ⟨c₀, hi, hk, fun _ _ _ => rfl⟩ ?_ hE
  rintro n m₁ nx h tk F₁ N₁ ⟨c, hc, h1, h2⟩
  refine turn n c nx m₁ h tk hc ?_ N₁
  have em : (fun y => kstB (fun z => if stored.contains z then m₁ z else m₀ z) (ps c) y) = m₁ := by
    funext y
    refine kstB_eq h1 fun hn => ?_
    by_cases hs : stored.contains y = true
    · rw [if_pos hs]
    · rw [if_neg hs]; exact (h2 y hn (by simpa using hs)).symm
  rw [em]; exact F₁
theorem LW.fin {σ : Type} {ps : σ → List (Str × Value)} {stored : List Str} {m₀ m' : Str → Option Value} {Inv : Nat → σ → List (Addr × Obj) → Prop} {L : Addr} {nx : List (Addr × Obj)} {h' : Heap} {tk n : Nat} (n' : Nat) (c : σ)
    (F : Fr h₀ L h' m') (N : News h₀ L h' nx) (hn : n' < n) (hi : Inv n' c nx) (hk : ∀ p ∈ ps c, m' p.1 = some p.2)
    (hr : ∀ z, (∀ p ∈ ps c, z ≠ p.1) → stored.contains z = false → m' z = m₀ z) :
    WhileStep2 h₀ L s (fun n => LW ps stored m₀ (Inv n)) Q n .next { s with heap := h', toks := tk } := ⟨h', tk, m', nx, n', rfl, F, N, hn, c, hi, hk, hr⟩
/-- a ledger without the iterator's own -/
inductive Split (own : List (Addr × Obj)) : List (Addr × Obj) → List (Addr × Obj) → Prop
  | base {mid : List (Addr × Obj)} : Split own (mid ++ own) mid
  | cons {a : Addr × Obj} {l nx : List (Addr × Obj)} : Split own l nx → Split own (a :: l) (a :: nx)
  | app {tl l nx : List (Addr × Obj)} : Split own l nx → Split own (tl ++ l) (tl ++ nx)
theorem Split.sub {own l nx : List (Addr × Obj)} (h : Split own l nx) : (∀ p ∈ nx, p ∈ l) ∧ (∀ p ∈ own, p ∈ l) := by
  induction h with
  | base => exact ⟨fun p hp => List.mem_append_left _ hp, fun p hp => List.mem_append_right _ hp⟩
  | cons _ ih => exact ⟨fun p hp => (List.mem_cons.mp hp).elim (fun e => e ▸ .head _) fun q => .tail _ (ih.1 p q), fun p hp => .tail _ (ih.2 p hp)⟩
  | app _ ih => exact ⟨fun p hp => (List.mem_append.mp hp).elim (fun q => List.mem_append_left _ q) fun q => List.mem_append_right _ (ih.1 p q), fun p hp => List.mem_append_right _ (ih.2 p hp)⟩
/-- the end of a turn -/
theorem LJ.fin {σ : Type} {ps : σ → List (Str × Value)} {stored : List Str} {m₀ m' : Str → Option Value} {Inv : σ → List (Addr × Obj) → Prop} {L : Addr} {own news' nx : List (Addr × Obj)} {s₁ : Shared} {h' : Heap} {tk : Nat} (c : σ)
    (F : Fr h₀ L h' m') (N : News h₀ L h' news') (sp : Split own news' nx) (hoff : OwnOff own (nx.map (·.1))) (hi : Inv c nx) (hk : ∀ p ∈ ps c, m' p.1 = some p.2)
    (hr : ∀ z, z ≠ x → (∀ p ∈ ps c, z ≠ p.1) → stored.contains z = false → m' z = m₀ z) :
    InvEndG h₀ L (LJ x ps stored m₀ Inv) own s₁ { s₁ with heap := h', toks := tk } := ⟨h', tk, m', news', nx, rfl, F, N, sp.sub.1, sp.sub.2, hoff, c, hi, hk, hr⟩
theorem LJ.finL {σ : Type} {ps : σ → List (Str × Value)} {stored : List Str} {m₀ m' : Str → Option Value} {Inv : σ → List (Addr × Obj) → Prop} {L : Addr} {own news' nx : List (Addr × Obj)} {s₁ : Shared} {h' : Heap} {tk : Nat} {q : Addr × Obj} (c : σ)
    (F : Fr h₀ L h' m') (N : News h₀ L h' news') (sp : Split own news' nx) (hoff : OwnOff own (nx.map (·.1))) (hq : q ∈ nx) (hi : Inv c nx) (hk : ∀ p ∈ ps c, m' p.1 = some p.2)
    (hr : ∀ z, z ≠ x → (∀ p ∈ ps c, z ≠ p.1) → stored.contains z = false → m' z = m₀ z) :
    InvEndG h₀ L (fun m' nx' => q ∈ nx' ∧ LJ x ps stored m₀ Inv m' nx') own s₁ { s₁ with heap := h', toks := tk } := ⟨h', tk, m', news', nx, rfl, F, N, sp.sub.1, sp.sub.2, hoff, hq, c, hi, hk, hr⟩
end
section
variable {w : World} {f : Addr} {vs : List Value} {fr : Nat} {news : List (Addr × Obj)} {Post : Value → List (Addr × Obj) → Prop} {Exc : Prop} {mean : ExcName → Option Value} {mg mb : Str → Option Value} {dp un : Nat} {gd : Option (List Code)} {cn : Str} {cs : Scope} {a : Addr} {ccd : Value} {cl : List (Str × Addr)} {outer : List Env} {A₀ : Around} {base h₀ : Heap} {L : Addr} {m : Str → Option Value} {s : Shared}
    {Q E : Value → Shared → Prop}
theorem tel_use (B : Below A₀ base outer h₀) (F : Fr h₀ L s.heap m) (X : (hd.heap_39 w.params).In h₀) (T : Top hd.view_39 Lo mean mg mb h₀) (hk : cs.kind = .function) (C : Tel w f vs fr news Post Exc) (N : News h₀ L s.heap news)
    (hd : dp + fr < recursionLimit) (hu : un + 8 * fr < cLine)
    (ret : ∀ r news' h' tk', Fr h₀ L h' m → News h₀ L h' news' → Post r news' → Q r { s with heap := h', toks := tk' })
    (exc : Exc → ∀ e h' tk', Flies base (envX cn cs L a ccd cl :: outer) h₀ L m e h' → E (.ref e) { s with heap := h', toks := tk' }) :
    wpAny (model PR w) (ktrTop dp un gd cn cs L a ccd cl outer) (call (.ref f) vs) Q E s := C _ _ _ _ _ _ _ _ _ _ _ _ _ _ _ _ _ _ _ _ B F X N T hk hd hu ret exc
end
theorem fly_on {M : Model} {A : Around} {E : Value → Shared → Prop} {s' : Shared} {base g h₀ : Heap} {outer : List Env} {L L' a e : Addr} {m m' : Str → Option Value} {name : Str} {scope : Scope} {cd : Value} {Q : Unit → Shared → Prop}
    (Fl : Flies base (envOf name scope L' a cd :: outer) g L' m' e s'.heap) (B : Below A base outer g) (FG : Fr h₀ L g m)
    (k : ∀ h', Flies base outer h₀ L m e h' → Q () { s' with heap := h' }) :
    wpAny M (A.deeper (envOf name scope L' a cd)) (leaving (envOf name scope L' a cd) (.ref e)) Q E s' := by
  obtain ⟨g₂, F₂, U, R⟩ := Fl
  exact leave_onN B F₂ R U fun h' R' U' => k h' ⟨g, FG, U', R'⟩
theorem news_sub {h₀ h : Heap} {L : Addr} {l l' : List (Addr × Obj)} (N : News h₀ L h l) (s : ∀ p ∈ l', p ∈ l) : News h₀ L h l' := fun p hp => N p (s p hp)
theorem reg_words_Ask : True := by
  k_with_none
  w_top off
  k_with "for!" => fail "no word"
  k_with "memr9" => first
    | with_reducible assumption
    | with_reducible exact List.mem_cons_self
    | (with_reducible refine List.mem_cons_of_mem _ ?_; k_extra "memr9")
    | (with_reducible refine List.mem_append_right _ ?_; k_extra "memr9")
    | (with_reducible refine List.mem_append_left _ ?_; k_extra "memr9")
  k_with "mem9" => first
    | k_extra "memr9"
    | assumption
    | k_mem
    | (simp only [List.mem_cons, List.mem_append] at *; simp only [*, true_or, or_true])
    | grind
  k_with "sub8" => first
    | exact List.forall_mem_nil _
    | (refine' List.forall_mem_cons.mpr ⟨?m8, ?_⟩; (case m8 => k_mem); k_extra "sub8")
    | (refine' List.forall_mem_append.mpr ⟨?m8, ?_⟩; (case m8 => k_extra "sub8"); k_extra "sub8")
    | (intro p8 h8; k_mem)
  k_with "sub9" => first
    | k_extra "sub8"
    | (intro p9 h9; first
      | exact h9
      | (simp only [List.mem_cons, List.mem_append] at h9 ⊢; grind))
  k_with "dat9" => repeat' (first
    | exact DatIn.str _ _
    | exact DatIn.int _ _
    | exact DatAll.nil
    | assumption
    | (refine' DatAll.cons ?_ ?_)
    | (refine' DatIn.tuple ?m9 ?_; (case m9 => k_extra "mem9"))
    | (refine' DatIn.list ?m9 ?_; (case m9 => k_extra "mem9"))
    | (refine' DatIn.mono ?s9 ?h9; (case h9 => assumption); (case s9 => k_extra "sub9")))
  k_with "and9" => first
    | ((fail_if_success (fail_if_success (rename _ ∧ _ => hc9))); refine foldP (fun G9 hG9 => ?_); (repeat' (rename _ ∧ _ => hc9; refine and_go hc9 (fun hc8 hc7 => ?_); clear hc9)); refine hG9 ?_; clear hG9 G9)
    | skip
  k_with "fold9" => ((fail_if_success (fail_if_success k_fold)); refine (let q9 := _; let e9 := _; (?_ : wpAny _ _ _ q9 e9 _)))
  k_with "ne9" => first
    | assumption
    | (refine' ne_all ?h9 ?s9; (case h9 => assumption); (case s9 => k_extra "sub9"))
    | (refine' ne_allT ?h9 ?s9; (case h9 => assumption); (case s9 => k_extra "sub9"))
  k_with "off9" => (
    refine' off_of ?_
    repeat' (first
    | exact offL_nil
    | (refine' offL_sub ?h9 ?s9; (case h9 => assumption); (case s9 => k_extra "sub9"))
    | (refine' offL_cons ?o9 ?_; (case o9 => k_extra "ne9"))
    | (refine' offL_app ?_ ?_)))
  k_with "split9" => first | exact Split.base | (refine Split.cons ?_; k_extra "split9") | (refine Split.app ?_; k_extra "split9")
  k_with "same9" => (intro z9 h1 h2 h3; (simp only [List.mem_cons, List.not_mem_nil, or_false, forall_eq_or_imp, forall_eq] at h2); (simp only [List.contains_cons, List.contains_nil, Bool.or_false, Bool.or_eq_false_iff, beq_eq_false_iff_ne, ne_eq] at h3); (simp [h1, h2, h3, kstB]; done))
  k_with "sameW9" => (intro z9 h2 h3; (simp only [List.mem_cons, List.not_mem_nil, or_false, forall_eq_or_imp, forall_eq] at h2); (simp only [List.contains_cons, List.contains_nil, Bool.or_false, Bool.or_eq_false_iff, beq_eq_false_iff_ne, ne_eq] at h3); (simp [h2, h3, kstB]; done))
  k_with "one9" => (first | exact List.forall_mem_nil _ | (refine' List.forall_mem_cons.mpr ⟨?a9, ?_⟩; (case a9 => with_unfolding_all rfl); k_extra "one9"))
  k_with "offE9" => ((try dsimp only); (repeat (refine' List.forall_mem_cons.mpr ⟨?o9, ?_⟩; (case o9 => ((try dsimp only); k_ne)))); (repeat' (rename _ ∧ _ => hc9; rcases hc9 with ⟨hc8, hc7⟩)); first | exact List.forall_mem_nil _ | assumption | exact lt_ne (by assumption) | exact gt_ne (by assumption))
  k_with "rot9" => repeat' (first | exact Rot.here | refine' Rot.next ?_)
  k_with "nes8" => repeat' (first | assumption | exact List.forall_mem_nil _ | (refine' List.forall_mem_cons.mpr ⟨?m8, ?_⟩; (case m8 => dsimp only; first | exact Nat.ne_of_gt (by assumption) | exact Nat.ne_of_lt (by assumption) | assumption | exact Ne.symm (by assumption) | k_ne)) | exact lt_ne (by assumption) | refine' List.forall_mem_append.mpr ⟨?_, ?_⟩)
  k_with "offs8" => repeat' (first | assumption | exact offL_nil | exact offL_swap (by assumption) | (refine' offL_cons ?m8 ?_; (case m8 => dsimp only; first | exact lt_ne (by assumption) | (refine' lt_ne2 ?A8 ?B8; (case B8 => assumption); (case A8 => assumption)) | k_extra "ne9")) | refine' offL_app ?_ ?_)
  k_with "sel9" => repeat' (first | exact Sel.base | (refine' Sel.old ?m9 ?_; (case m9 => assumption)) | (refine' Sel.cut ?m9 ?_; (case m9 => repeat (first | exact List.mem_cons_self | refine List.mem_cons_of_mem _ ?_))) | refine' Sel.keep ?_ | refine' Sel.app ?_)
  k_with "mems9" => repeat' (first | exact List.forall_mem_nil _ | (refine' List.forall_mem_cons.mpr ⟨?m9, ?_⟩; (case m9 => k_extra "mem9")))
  k_with "isd9" => repeat' (first | (refine' dat_cons ?m9 ?_; (case m9 => first | (intro _; k_mem) | (intro q9; exact absurd q9 (dict_no (by assumption))) | (intro q9; exact absurd q9 (by simp [isDat, instObj, dictOf, itR])))) | (refine' dat_app ?m9 ?_; (case m9 => k_extra "sub9")) | (refine' dat_end ?m9; (case m9 => k_extra "sub9")))
  k_with "~execs cons" => k_extra "fold9"
  k_with "~call builtin:isinstance" => (k_here; (with_reducible show wpAny _ _ (call _ [Value.ref _, Value.type _]) _ _ _); kit_cont; k_dflt kit_objs)
  k_with "~eval Call" => k_extra "fold9"
  k_with "~eval Compare" => k_extra "fold9"
  k_with "~eval BinOp" => k_extra "fold9"
  k_with "~eval Tuple" => k_extra "fold9"
  k_with "~eval List" => k_extra "fold9"
  k_with "~eval Subscript" => k_extra "fold9"
  k_with "~eval Attribute" => k_extra "fold9"
  k_with "~eval IfExp" => k_extra "fold9"
  k_with "lt9" => first
    | with_reducible assumption
    | exact cj0 (by with_reducible assumption)
    | exact cj1 (by with_reducible assumption)
    | exact cj2 (by with_reducible assumption)
    | exact cj3 (by with_reducible assumption)
    | exact cj4 (by with_reducible assumption)
    | exact cj5 (by with_reducible assumption)
    | exact cj6 (by with_reducible assumption)
    | exact cj7 (by with_reducible assumption)
    | exact cz1 (by with_reducible assumption)
    | exact cz2 (by with_reducible assumption)
    | exact cz3 (by with_reducible assumption)
    | exact cz4 (by with_reducible assumption)
    | exact cz5 (by with_reducible assumption)
    | exact cz6 (by with_reducible assumption)
    | exact cz7 (by with_reducible assumption)
    | fail "lt9"
  k_with "om9" => first
    | with_reducible assumption
    | exact Nat.le_of_ble_eq_true rfl
    | exact Ne.symm (by with_reducible assumption)
    | ((with_reducible show (_ : Nat) ≠ _); first | exact Nat.ne_of_lt (by k_extra "lt9") | exact Nat.ne_of_gt (by k_extra "lt9"))
    | ((with_reducible show (_ : Nat) < _); first
      | exact rm1 (by with_reducible assumption) (by exact rfl)
      | exact rm0 (by with_reducible assumption)
      | exact rn1 (by with_reducible assumption) (by exact rfl)
      | exact rn3 (by with_reducible assumption) (by exact rfl)
      | exact rf2 (by with_reducible assumption) (by with_reducible assumption) (by exact rfl)
      | exact rm3 (by with_reducible assumption) (by exact rfl)
      | exact uf2 (by with_reducible assumption) (by with_reducible assumption) (by exact rfl)
      | exact um3 (by with_reducible assumption) (by exact rfl)
      | exact rf1 (by with_reducible assumption) (by with_reducible assumption) (by exact rfl)
      | exact rf3 (by with_reducible assumption) (by with_reducible assumption) (by exact rfl)
      | exact uf3 (by with_reducible assumption) (by with_reducible assumption) (by exact rfl)
      | k_extra "lt9")
    | fail "om9"
  k_with "~@k_all" => first | assumption | exact lt_ne (by assumption) | exact gt_ne (by assumption) | (refine' List.forall_mem_append.mpr ⟨?q9a, ?q9b⟩; (case q9a => k_all); (case q9b => k_all))
  k_with "~call builtin:len" => (k_here; (with_reducible show wpAny _ _ (call (Value.builtin "len") [Value.ref _]) _ _ _); (refine KM.len_K (by k_asm) (by k_dflt k_mem) rfl (by simp; omega) ?_))
  k_with "~@k_room" => ((try simp only [depth_mark, depth_under_make, depth_under_kw, depth_in1, depth_deeper, depth_caller]); (try dsimp only [ktrTop]); omega)
  k_with "~@k_units" => ((have hcL9 := cLine_is); (try simp only [units_in1, units_deeper, Around.mark_units, units_caller]); (try dsimp only [ktrTop]); omega)
  k_with "~exec While Compare cons nil" => k_extra "while!"
  k_with "~pyIter ref" => k_extra "iter!"
  k_with "~call ref" => k_extra "call!"
  k_with "~exec For Name Call cons nil" => (k_extra "for!"; k_here; (rename Fr _ _ _ _ => z9lF'); (with_unfolding_all refine' For_invVF z9lF' ?q9k1 ?q9k2 ?_; (case q9k1 => exact rfl); (case q9k2 => exact rfl); k_whole))
  k_with "~exec For Name Name cons nil" => (k_extra "for!"; k_here; (rename Fr _ _ _ _ => z9lF'); (with_unfolding_all refine' For_invVF z9lF' ?q9k1 ?q9k2 ?_; (case q9k1 => exact rfl); (case q9k2 => exact rfl); k_whole))
  trivial
theorem asked (w : World) (k : Fin 12) (tn tt : Tok) (times : Nat) (h3 : times ≤ 3) (news : List (Addr × Obj)) :
    Tel w 344 [.str (fnm k.val) tn, .int (times : Int) tt] 5 news (fun r news' => ∃ tl, news' = tl ++ news ∧ OffL tl news ∧ DatIn tl r (askE k times).dat) False := by
  have lp : Challenge.rw_pq0356_01.foot = Challenge.rw_pq0356_01.foot ∧ hd.heap_39 = hd.heap_39 := by k_fill; exact ⟨rfl, rfl⟩
  clear lp
  intro mean mg mb dp un gd cn cs a ccd cl outer A₀ base h₀ L m s Q E B F X N T hk hdp hun hret _
  k_with "for!" => skip
  k_with "iter!" => refine Stop.out ?_
  refine wpAny_call ?_
  k_dflt ktr_enter
  k_steps
  refine Stop.on ?_
  rename IsRange _ _ _ _ _ _ _ _ => lR'
  rename Fr _ _ _ _ => lF'
  rename News _ _ _ _ => lN'
  with_unfolding_all refine' loop_range (fun v => [(Str.ofString "tree", v)]) [] (fun i v nx => ∃ tl, nx = tl ++ news ∧ OffL tl news ∧ DatIn tl v (askE k i).dat) _ (by rfl) lR' (by omega) lF' lN' ⟨[_], rfl, ?l3, ?l2⟩ ?l1 ?turn ?done
  case l1 => k_extra "one9"
  case l2 => k_extra "dat9"
  case l3 => exact offL_swap (by k_extra "offs8")
  case turn =>
    rintro i' c' nx' t' u' h' tk' own' hi' hoff' ⟨tl', rfl, ho', hd'⟩ F' N'
    clear lF' lN'
    k_extra "fold9"
    k_steps
    k_extra "and9"
    refine LJ.fin _ (by assumption) (by assumption) (by k_extra "split9") ?off ⟨_ :: _ :: tl', rfl, ?offt, ?dat⟩ (by k_extra "one9") ?same
    case off => k_extra "off9"
    case offt => exact offL_swap (by k_extra "offs8")
    case dat => rw [askE, Ex.dat]; k_extra "dat9"
    case same => k_extra "same9"
  case done =>
    rintro c' nx' u' h' tk' ⟨tl', rfl, ho', hd'⟩ F' N'
    clear lF' lN'
    k_steps
    exact hret _ _ _ _ (by assumption) (by assumption) ⟨_, rfl, ho', hd'⟩
theorem reg_words_Bel : True := by
  k_with_none
  w_top off
  k_with "for!" => fail "no word"
  k_with "memr9" => first
    | with_reducible assumption
    | with_reducible exact List.mem_cons_self
    | (with_reducible refine List.mem_cons_of_mem _ ?_; k_extra "memr9")
    | (with_reducible refine List.mem_append_right _ ?_; k_extra "memr9")
    | (with_reducible refine List.mem_append_left _ ?_; k_extra "memr9")
  k_with "mem9" => first
    | k_extra "memr9"
    | assumption
    | k_mem
    | (simp only [List.mem_cons, List.mem_append] at *; simp only [*, true_or, or_true])
    | grind
  k_with "sub8" => first
    | exact List.forall_mem_nil _
    | (refine' List.forall_mem_cons.mpr ⟨?m8, ?_⟩; (case m8 => k_mem); k_extra "sub8")
    | (refine' List.forall_mem_append.mpr ⟨?m8, ?_⟩; (case m8 => k_extra "sub8"); k_extra "sub8")
    | (intro p8 h8; k_mem)
  k_with "sub9" => first
    | k_extra "sub8"
    | (intro p9 h9; first
      | exact h9
      | (simp only [List.mem_cons, List.mem_append] at h9 ⊢; grind))
  k_with "dat9" => repeat' (first
    | exact DatIn.str _ _
    | exact DatIn.int _ _
    | exact DatAll.nil
    | assumption
    | (refine' DatAll.cons ?_ ?_)
    | (refine' DatIn.tuple ?m9 ?_; (case m9 => k_extra "mem9"))
    | (refine' DatIn.list ?m9 ?_; (case m9 => k_extra "mem9"))
    | (refine' DatIn.mono ?s9 ?h9; (case h9 => assumption); (case s9 => k_extra "sub9")))
  k_with "and9" => first
    | ((fail_if_success (fail_if_success (rename _ ∧ _ => hc9))); refine foldP (fun G9 hG9 => ?_); (repeat' (rename _ ∧ _ => hc9; refine and_go hc9 (fun hc8 hc7 => ?_); clear hc9)); refine hG9 ?_; clear hG9 G9)
    | skip
  k_with "fold9" => ((fail_if_success (fail_if_success k_fold)); refine (let q9 := _; let e9 := _; (?_ : wpAny _ _ _ q9 e9 _)))
  k_with "ne9" => first
    | assumption
    | (refine' ne_all ?h9 ?s9; (case h9 => assumption); (case s9 => k_extra "sub9"))
    | (refine' ne_allT ?h9 ?s9; (case h9 => assumption); (case s9 => k_extra "sub9"))
  k_with "off9" => (
    refine' off_of ?_
    repeat' (first
    | exact offL_nil
    | (refine' offL_sub ?h9 ?s9; (case h9 => assumption); (case s9 => k_extra "sub9"))
    | (refine' offL_cons ?o9 ?_; (case o9 => k_extra "ne9"))
    | (refine' offL_app ?_ ?_)))
  k_with "split9" => first | exact Split.base | (refine Split.cons ?_; k_extra "split9") | (refine Split.app ?_; k_extra "split9")
  k_with "same9" => (intro z9 h1 h2 h3; (simp only [List.mem_cons, List.not_mem_nil, or_false, forall_eq_or_imp, forall_eq] at h2); (simp only [List.contains_cons, List.contains_nil, Bool.or_false, Bool.or_eq_false_iff, beq_eq_false_iff_ne, ne_eq] at h3); (simp [h1, h2, h3, kstB]; done))
  k_with "sameW9" => (intro z9 h2 h3; (simp only [List.mem_cons, List.not_mem_nil, or_false, forall_eq_or_imp, forall_eq] at h2); (simp only [List.contains_cons, List.contains_nil, Bool.or_false, Bool.or_eq_false_iff, beq_eq_false_iff_ne, ne_eq] at h3); (simp [h2, h3, kstB]; done))
  k_with "one9" => (first | exact List.forall_mem_nil _ | (refine' List.forall_mem_cons.mpr ⟨?a9, ?_⟩; (case a9 => with_unfolding_all rfl); k_extra "one9"))
  k_with "offE9" => ((try dsimp only); (repeat (refine' List.forall_mem_cons.mpr ⟨?o9, ?_⟩; (case o9 => ((try dsimp only); k_ne)))); (repeat' (rename _ ∧ _ => hc9; rcases hc9 with ⟨hc8, hc7⟩)); first | exact List.forall_mem_nil _ | assumption | exact lt_ne (by assumption) | exact gt_ne (by assumption))
  k_with "rot9" => repeat' (first | exact Rot.here | refine' Rot.next ?_)
  k_with "nes8" => repeat' (first | assumption | exact List.forall_mem_nil _ | (refine' List.forall_mem_cons.mpr ⟨?m8, ?_⟩; (case m8 => dsimp only; first | exact Nat.ne_of_gt (by assumption) | exact Nat.ne_of_lt (by assumption) | assumption | exact Ne.symm (by assumption) | k_ne)) | exact lt_ne (by assumption) | refine' List.forall_mem_append.mpr ⟨?_, ?_⟩)
  k_with "offs8" => repeat' (first | assumption | exact offL_nil | exact offL_swap (by assumption) | (refine' offL_cons ?m8 ?_; (case m8 => dsimp only; first | exact lt_ne (by assumption) | (refine' lt_ne2 ?A8 ?B8; (case B8 => assumption); (case A8 => assumption)) | k_extra "ne9")) | refine' offL_app ?_ ?_)
  k_with "sel9" => repeat' (first | exact Sel.base | (refine' Sel.old ?m9 ?_; (case m9 => assumption)) | (refine' Sel.cut ?m9 ?_; (case m9 => repeat (first | exact List.mem_cons_self | refine List.mem_cons_of_mem _ ?_))) | refine' Sel.keep ?_ | refine' Sel.app ?_)
  k_with "mems9" => repeat' (first | exact List.forall_mem_nil _ | (refine' List.forall_mem_cons.mpr ⟨?m9, ?_⟩; (case m9 => k_extra "mem9")))
  k_with "isd9" => repeat' (first | (refine' dat_cons ?m9 ?_; (case m9 => first | (intro _; k_mem) | (intro q9; exact absurd q9 (dict_no (by assumption))) | (intro q9; exact absurd q9 (by simp [isDat, instObj, dictOf, itR])))) | (refine' dat_app ?m9 ?_; (case m9 => k_extra "sub9")) | (refine' dat_end ?m9; (case m9 => k_extra "sub9")))
  k_with "~execs cons" => k_extra "fold9"
  k_with "~call builtin:isinstance" => (k_here; (with_reducible show wpAny _ _ (call _ [Value.ref _, Value.type _]) _ _ _); kit_cont; k_dflt kit_objs)
  k_with "~eval Call" => k_extra "fold9"
  k_with "~eval Compare" => k_extra "fold9"
  k_with "~eval BinOp" => k_extra "fold9"
  k_with "~eval Tuple" => k_extra "fold9"
  k_with "~eval List" => k_extra "fold9"
  k_with "~eval Subscript" => k_extra "fold9"
  k_with "~eval Attribute" => k_extra "fold9"
  k_with "~eval IfExp" => k_extra "fold9"
  k_with "lt9" => first
    | with_reducible assumption
    | exact cj0 (by with_reducible assumption)
    | exact cj1 (by with_reducible assumption)
    | exact cj2 (by with_reducible assumption)
    | exact cj3 (by with_reducible assumption)
    | exact cj4 (by with_reducible assumption)
    | exact cj5 (by with_reducible assumption)
    | exact cj6 (by with_reducible assumption)
    | exact cj7 (by with_reducible assumption)
    | exact cz1 (by with_reducible assumption)
    | exact cz2 (by with_reducible assumption)
    | exact cz3 (by with_reducible assumption)
    | exact cz4 (by with_reducible assumption)
    | exact cz5 (by with_reducible assumption)
    | exact cz6 (by with_reducible assumption)
    | exact cz7 (by with_reducible assumption)
    | fail "lt9"
  k_with "om9" => first
    | with_reducible assumption
    | exact Nat.le_of_ble_eq_true rfl
    | exact Ne.symm (by with_reducible assumption)
    | ((with_reducible show (_ : Nat) ≠ _); first | exact Nat.ne_of_lt (by k_extra "lt9") | exact Nat.ne_of_gt (by k_extra "lt9"))
    | ((with_reducible show (_ : Nat) < _); first
      | exact rm1 (by with_reducible assumption) (by exact rfl)
      | exact rm0 (by with_reducible assumption)
      | exact rn1 (by with_reducible assumption) (by exact rfl)
      | exact rn3 (by with_reducible assumption) (by exact rfl)
      | exact rf2 (by with_reducible assumption) (by with_reducible assumption) (by exact rfl)
      | exact rm3 (by with_reducible assumption) (by exact rfl)
      | exact uf2 (by with_reducible assumption) (by with_reducible assumption) (by exact rfl)
      | exact um3 (by with_reducible assumption) (by exact rfl)
      | exact rf1 (by with_reducible assumption) (by with_reducible assumption) (by exact rfl)
      | exact rf3 (by with_reducible assumption) (by with_reducible assumption) (by exact rfl)
      | exact uf3 (by with_reducible assumption) (by with_reducible assumption) (by exact rfl)
      | k_extra "lt9")
    | fail "om9"
  k_with "~@k_all" => first | assumption | exact lt_ne (by assumption) | exact gt_ne (by assumption) | (refine' List.forall_mem_append.mpr ⟨?q9a, ?q9b⟩; (case q9a => k_all); (case q9b => k_all))
  k_with "~call builtin:len" => (k_here; (with_reducible show wpAny _ _ (call (Value.builtin "len") [Value.ref _]) _ _ _); (refine KM.len_K (by k_asm) (by k_dflt k_mem) rfl (by simp; omega) ?_))
  k_with "~@k_room" => ((try simp only [depth_mark, depth_under_make, depth_under_kw, depth_in1, depth_deeper, depth_caller]); (try dsimp only [ktrTop]); omega)
  k_with "~@k_units" => ((have hcL9 := cLine_is); (try simp only [units_in1, units_deeper, Around.mark_units, units_caller]); (try dsimp only [ktrTop]); omega)
  k_with "~exec While Compare cons nil" => k_extra "while!"
  k_with "~pyIter ref" => k_extra "iter!"
  k_with "~call ref" => k_extra "call!"
  k_with "~exec For Name Call cons nil" => (k_extra "for!"; k_here; (rename Fr _ _ _ _ => z9lF'); (with_unfolding_all refine' For_invVF z9lF' ?q9k1 ?q9k2 ?_; (case q9k1 => exact rfl); (case q9k2 => exact rfl); k_whole))
  k_with "~exec For Name Name cons nil" => (k_extra "for!"; k_here; (rename Fr _ _ _ _ => z9lF'); (with_unfolding_all refine' For_invVF z9lF' ?q9k1 ?q9k2 ?_; (case q9k1 => exact rfl); (case q9k2 => exact rfl); k_whole))
  trivial
theorem fmod3 (i : Nat) : ((i : Int).fmod 3 < 2) ↔ i % 3 < 2 := by
  rw [Int.fmod_eq_emod_of_nonneg _ (by decide)]; omega
theorem belE_yes {i : Nat} {e : Ex} (h : (i : Int).fmod 3 < 2) : (belE (i + 1) e) = .ng (belE i e) := by rw [belE, if_pos ((fmod3 i).mp h)]
theorem belE_no {i : Nat} {e : Ex} (h : ¬ (i : Int).fmod 3 < 2) : (belE (i + 1) e) = .bi true (belE i e) .one := by rw [belE, if_neg fun q => h ((fmod3 i).mpr q)]
theorem belT_yes {i : Nat} {e : Ty} (h : (i : Int).fmod 3 < 2) : (belT (i + 1) e) = .ng (belT i e) := by rw [belT, if_pos ((fmod3 i).mp h)]
theorem belT_no {i : Nat} {e : Ty} (h : ¬ (i : Int).fmod 3 < 2) : (belT (i + 1) e) = .bi true (belT i e) .one := by rw [belT, if_neg fun q => h ((fmod3 i).mpr q)]
theorem below (w : World) (v : Value) (e : Ex) (tt : Tok) (wraps : Nat) (h3 : wraps ≤ 100) (S news : List (Addr × Obj)) (hS : ∀ p ∈ S, p ∈ news) (hv : DatIn S v e.dat) :
    Tel w 351 [v, .int (wraps : Int) tt] 5 news (fun r news' => ∃ tl, news' = tl ++ news ∧ OffL tl news ∧ DatIn (tl ++ S) r (belE wraps e).dat) False := by
  have lp : Challenge.rw_pq0356_01.foot = Challenge.rw_pq0356_01.foot ∧ hd.heap_39 = hd.heap_39 := by k_fill; exact ⟨rfl, rfl⟩
  clear lp
  intro mean mg mb dp un gd cn cs a ccd cl outer A₀ base h₀ L m s Q E B F X N T hk hdp hun hret _
  k_with "for!" => skip
  k_with "iter!" => refine Stop.out ?_
  refine wpAny_call ?_
  k_dflt ktr_enter
  k_steps
  refine Stop.on ?_
  rename IsRange _ _ _ _ _ _ _ _ => lR'
  rename Fr _ _ _ _ => lF'
  rename News _ _ _ _ => lN'
  with_unfolding_all refine' loop_range (fun v => [(Str.ofString "tree", v)]) [] (fun i v nx => ∃ tl, nx = tl ++ news ∧ OffL tl news ∧ DatIn (tl ++ S) v (belE i e).dat) _ (by rfl) lR' (by omega) lF' lN' ⟨[], rfl, ?l3, ?l2⟩ ?l1 ?turn ?done
  case l1 => k_extra "one9"
  case l2 => exact hv
  case l3 => exact fun _ hp => nomatch hp
  case turn =>
    rintro i' c' nx' t' u' h' tk' own' hi' hoff' ⟨tl', rfl, ho', hd'⟩ F' N'
    clear lF' lN'
    k_extra "fold9"
    k_steps
    all_goals k_extra "and9"
    · refine LJ.fin _ (by assumption) (by assumption) (by k_extra "split9") ?off ⟨_ :: tl', rfl, ?offt, ?dat⟩ (by k_extra "one9") ?same
      case off => k_extra "off9"
      case offt => exact offL_swap (by k_extra "offs8")
      case dat => rw [belE_yes (by assumption), Ex.dat]; k_extra "dat9"
      case same => k_extra "same9"
    · refine LJ.fin _ (by assumption) (by assumption) (by k_extra "split9") ?off ⟨_ :: _ :: tl', rfl, ?offt, ?dat⟩ (by k_extra "one9") ?same
      case off => k_extra "off9"
      case offt => exact offL_swap (by k_extra "offs8")
      case dat => rw [belE_no (by assumption), Ex.dat, Ex.dat, oneE]; k_extra "dat9"
      case same => k_extra "same9"
  case done =>
    rintro c' nx' u' h' tk' ⟨tl', rfl, ho', hd'⟩ F' N'
    clear lF' lN'
    k_steps
    exact hret _ _ _ _ (by assumption) (by assumption) ⟨_, rfl, ho', hd'⟩
theorem typed_below (w : World) (v : Value) (e : Ty) (tt : Tok) (wraps : Nat) (h3 : wraps ≤ 100) (S news : List (Addr × Obj)) (hS : ∀ p ∈ S, p ∈ news) (hv : DatIn (kone ++ S) v e.dat) :
    Tel w 358 [v, .int (wraps : Int) tt] 5 news (fun r news' => ∃ tl, news' = tl ++ news ∧ OffL tl news ∧ DatIn (kone ++ (tl ++ S)) r (belT wraps e).dat) False := by
  intro mean mg mb dp un gd cn cs a ccd cl outer A₀ base h₀ L m s Q E B F X N T hk hdp hun hret _
  k_with "for!" => skip
  k_with "iter!" => refine Stop.out ?_
  refine wpAny_call ?_
  k_dflt ktr_enter
  k_steps
  refine Stop.on ?_
  rename IsRange _ _ _ _ _ _ _ _ => lR'
  rename Fr _ _ _ _ => lF'
  rename News _ _ _ _ => lN'
  with_unfolding_all refine' loop_range (fun v => [(Str.ofString "tree", v)]) [] (fun i v nx => ∃ tl, nx = tl ++ news ∧ OffL tl news ∧ DatIn (kone ++ (tl ++ S)) v (belT i e).dat) _ (by rfl) lR' (by omega) lF' lN' ⟨[], rfl, ?l3, ?l2⟩ ?l1 ?turn ?done
  case l1 => k_extra "one9"
  case l2 => exact hv
  case l3 => exact fun _ hp => nomatch hp
  case turn =>
    rintro i' c' nx' t' u' h' tk' own' hi' hoff' ⟨tl', rfl, ho', hd'⟩ F' N'
    clear lF' lN'
    k_extra "fold9"
    k_steps
    all_goals k_extra "and9"
    · refine LJ.fin _ (by assumption) (by assumption) (by k_extra "split9") ?off ⟨_ :: tl', rfl, ?offt, ?dat⟩ (by k_extra "one9") ?same
      case off => k_extra "off9"
      case offt => exact offL_swap (by k_extra "offs8")
      case dat => rw [belT_yes (by assumption), Ty.dat]; k_extra "dat9"
      case same => k_extra "same9"
    · refine LJ.fin _ (by assumption) (by assumption) (by k_extra "split9") ?off ⟨_ :: tl', rfl, ?offt, ?dat⟩ (by k_extra "one9") ?same
      case off => k_extra "off9"
      case offt => exact offL_swap (by k_extra "offs8")
      case dat => rw [belT_no (by assumption), Ty.dat, Ty.dat]; refine DatIn.tuple (by k_extra "mem9") (.cons (.str _ _) (.cons (.int _ _) (.cons (DatIn.mono (by k_extra "sub9") hd') (.cons kone_at .nil))))
      case same => k_extra "same9"
  case done =>
    rintro c' nx' u' h' tk' ⟨tl', rfl, ho', hd'⟩ F' N'
    clear lF' lN'
    k_steps
    exact hret _ _ _ _ (by assumption) (by assumption) ⟨_, rfl, ho', hd'⟩
theorem reg_words_Cnt : True := by
  k_with_none
  w_top off
  k_with "for!" => fail "no word"
  k_with "memr9" => first
    | with_reducible assumption
    | with_reducible exact List.mem_cons_self
    | (with_reducible refine List.mem_cons_of_mem _ ?_; k_extra "memr9")
    | (with_reducible refine List.mem_append_right _ ?_; k_extra "memr9")
    | (with_reducible refine List.mem_append_left _ ?_; k_extra "memr9")
  k_with "mem9" => first
    | k_extra "memr9"
    | assumption
    | k_mem
    | (simp only [List.mem_cons, List.mem_append] at *; simp only [*, true_or, or_true])
    | grind
  k_with "sub8" => first
    | exact List.forall_mem_nil _
    | (refine' List.forall_mem_cons.mpr ⟨?m8, ?_⟩; (case m8 => k_mem); k_extra "sub8")
    | (refine' List.forall_mem_append.mpr ⟨?m8, ?_⟩; (case m8 => k_extra "sub8"); k_extra "sub8")
    | (intro p8 h8; k_mem)
  k_with "sub9" => first
    | k_extra "sub8"
    | (intro p9 h9; first
      | exact h9
      | (simp only [List.mem_cons, List.mem_append] at h9 ⊢; grind))
  k_with "dat9" => repeat' (first
    | exact DatIn.str _ _
    | exact DatIn.int _ _
    | exact DatAll.nil
    | assumption
    | (refine' DatAll.cons ?_ ?_)
    | (refine' DatIn.tuple ?m9 ?_; (case m9 => k_extra "mem9"))
    | (refine' DatIn.list ?m9 ?_; (case m9 => k_extra "mem9"))
    | (refine' DatIn.mono ?s9 ?h9; (case h9 => assumption); (case s9 => k_extra "sub9")))
  k_with "and9" => first
    | ((fail_if_success (fail_if_success (rename _ ∧ _ => hc9))); refine foldP (fun G9 hG9 => ?_); (repeat' (rename _ ∧ _ => hc9; refine and_go hc9 (fun hc8 hc7 => ?_); clear hc9)); refine hG9 ?_; clear hG9 G9)
    | skip
  k_with "fold9" => ((fail_if_success (fail_if_success k_fold)); refine (let q9 := _; let e9 := _; (?_ : wpAny _ _ _ q9 e9 _)))
  k_with "ne9" => first
    | assumption
    | (refine' ne_all ?h9 ?s9; (case h9 => assumption); (case s9 => k_extra "sub9"))
    | (refine' ne_allT ?h9 ?s9; (case h9 => assumption); (case s9 => k_extra "sub9"))
  k_with "off9" => (
    refine' off_of ?_
    repeat' (first
    | exact offL_nil
    | (refine' offL_sub ?h9 ?s9; (case h9 => assumption); (case s9 => k_extra "sub9"))
    | (refine' offL_cons ?o9 ?_; (case o9 => k_extra "ne9"))
    | (refine' offL_app ?_ ?_)))
  k_with "split9" => first | exact Split.base | (refine Split.cons ?_; k_extra "split9") | (refine Split.app ?_; k_extra "split9")
  k_with "same9" => (intro z9 h1 h2 h3; (simp only [List.mem_cons, List.not_mem_nil, or_false, forall_eq_or_imp, forall_eq] at h2); (simp only [List.contains_cons, List.contains_nil, Bool.or_false, Bool.or_eq_false_iff, beq_eq_false_iff_ne, ne_eq] at h3); (simp [h1, h2, h3, kstB]; done))
  k_with "sameW9" => (intro z9 h2 h3; (simp only [List.mem_cons, List.not_mem_nil, or_false, forall_eq_or_imp, forall_eq] at h2); (simp only [List.contains_cons, List.contains_nil, Bool.or_false, Bool.or_eq_false_iff, beq_eq_false_iff_ne, ne_eq] at h3); (simp [h2, h3, kstB]; done))
  k_with "one9" => (first | exact List.forall_mem_nil _ | (refine' List.forall_mem_cons.mpr ⟨?a9, ?_⟩; (case a9 => with_unfolding_all rfl); k_extra "one9"))
  k_with "offE9" => ((try dsimp only); (repeat (refine' List.forall_mem_cons.mpr ⟨?o9, ?_⟩; (case o9 => ((try dsimp only); k_ne)))); (repeat' (rename _ ∧ _ => hc9; rcases hc9 with ⟨hc8, hc7⟩)); first | exact List.forall_mem_nil _ | assumption | exact lt_ne (by assumption) | exact gt_ne (by assumption))
  k_with "rot9" => repeat' (first | exact Rot.here | refine' Rot.next ?_)
  k_with "nes8" => repeat' (first | assumption | exact List.forall_mem_nil _ | (refine' List.forall_mem_cons.mpr ⟨?m8, ?_⟩; (case m8 => dsimp only; first | exact Nat.ne_of_gt (by assumption) | exact Nat.ne_of_lt (by assumption) | assumption | exact Ne.symm (by assumption) | k_ne)) | exact lt_ne (by assumption) | refine' List.forall_mem_append.mpr ⟨?_, ?_⟩)
  k_with "offs8" => repeat' (first | assumption | exact offL_nil | exact offL_swap (by assumption) | (refine' offL_cons ?m8 ?_; (case m8 => dsimp only; first | exact lt_ne (by assumption) | (refine' lt_ne2 ?A8 ?B8; (case B8 => assumption); (case A8 => assumption)) | k_extra "ne9")) | refine' offL_app ?_ ?_)
  k_with "sel9" => repeat' (first | exact Sel.base | (refine' Sel.old ?m9 ?_; (case m9 => assumption)) | (refine' Sel.cut ?m9 ?_; (case m9 => repeat (first | exact List.mem_cons_self | refine List.mem_cons_of_mem _ ?_))) | refine' Sel.keep ?_ | refine' Sel.app ?_)
  k_with "mems9" => repeat' (first | exact List.forall_mem_nil _ | (refine' List.forall_mem_cons.mpr ⟨?m9, ?_⟩; (case m9 => k_extra "mem9")))
  k_with "isd9" => repeat' (first | (refine' dat_cons ?m9 ?_; (case m9 => first | (intro _; k_mem) | (intro q9; exact absurd q9 (dict_no (by assumption))) | (intro q9; exact absurd q9 (by simp [isDat, instObj, dictOf, itR])))) | (refine' dat_app ?m9 ?_; (case m9 => k_extra "sub9")) | (refine' dat_end ?m9; (case m9 => k_extra "sub9")))
  k_with "~execs cons" => k_extra "fold9"
  k_with "~call builtin:isinstance" => (k_here; (with_reducible show wpAny _ _ (call _ [Value.ref _, Value.type _]) _ _ _); kit_cont; k_dflt kit_objs)
  k_with "~eval Call" => k_extra "fold9"
  k_with "~eval Compare" => k_extra "fold9"
  k_with "~eval BinOp" => k_extra "fold9"
  k_with "~eval Tuple" => k_extra "fold9"
  k_with "~eval List" => k_extra "fold9"
  k_with "~eval Subscript" => k_extra "fold9"
  k_with "~eval Attribute" => k_extra "fold9"
  k_with "~eval IfExp" => k_extra "fold9"
  k_with "lt9" => first
    | with_reducible assumption
    | exact cj0 (by with_reducible assumption)
    | exact cj1 (by with_reducible assumption)
    | exact cj2 (by with_reducible assumption)
    | exact cj3 (by with_reducible assumption)
    | exact cj4 (by with_reducible assumption)
    | exact cj5 (by with_reducible assumption)
    | exact cj6 (by with_reducible assumption)
    | exact cj7 (by with_reducible assumption)
    | exact cz1 (by with_reducible assumption)
    | exact cz2 (by with_reducible assumption)
    | exact cz3 (by with_reducible assumption)
    | exact cz4 (by with_reducible assumption)
    | exact cz5 (by with_reducible assumption)
    | exact cz6 (by with_reducible assumption)
    | exact cz7 (by with_reducible assumption)
    | fail "lt9"
  k_with "om9" => first
    | with_reducible assumption
    | exact Nat.le_of_ble_eq_true rfl
    | exact Ne.symm (by with_reducible assumption)
    | ((with_reducible show (_ : Nat) ≠ _); first | exact Nat.ne_of_lt (by k_extra "lt9") | exact Nat.ne_of_gt (by k_extra "lt9"))
    | ((with_reducible show (_ : Nat) < _); first
      | exact rm1 (by with_reducible assumption) (by exact rfl)
      | exact rm0 (by with_reducible assumption)
      | exact rn1 (by with_reducible assumption) (by exact rfl)
      | exact rn3 (by with_reducible assumption) (by exact rfl)
      | exact rf2 (by with_reducible assumption) (by with_reducible assumption) (by exact rfl)
      | exact rm3 (by with_reducible assumption) (by exact rfl)
      | exact uf2 (by with_reducible assumption) (by with_reducible assumption) (by exact rfl)
      | exact um3 (by with_reducible assumption) (by exact rfl)
      | exact rf1 (by with_reducible assumption) (by with_reducible assumption) (by exact rfl)
      | exact rf3 (by with_reducible assumption) (by with_reducible assumption) (by exact rfl)
      | exact uf3 (by with_reducible assumption) (by with_reducible assumption) (by exact rfl)
      | k_extra "lt9")
    | fail "om9"
  k_with "~@k_all" => first | assumption | exact lt_ne (by assumption) | exact gt_ne (by assumption) | (refine' List.forall_mem_append.mpr ⟨?q9a, ?q9b⟩; (case q9a => k_all); (case q9b => k_all))
  k_with "~call builtin:len" => (k_here; (with_reducible show wpAny _ _ (call (Value.builtin "len") [Value.ref _]) _ _ _); (refine KM.len_K (by k_asm) (by k_dflt k_mem) rfl (by simp; omega) ?_))
  k_with "~@k_room" => ((try simp only [depth_mark, depth_under_make, depth_under_kw, depth_in1, depth_deeper, depth_caller]); (try dsimp only [ktrTop]); omega)
  k_with "~@k_units" => ((have hcL9 := cLine_is); (try simp only [units_in1, units_deeper, Around.mark_units, units_caller]); (try dsimp only [ktrTop]); omega)
  k_with "~exec While Compare cons nil" => k_extra "while!"
  k_with "~pyIter ref" => k_extra "iter!"
  k_with "~call ref" => k_extra "call!"
  k_with "~exec For Name Call cons nil" => (k_extra "for!"; k_here; (rename Fr _ _ _ _ => z9lF'); (with_unfolding_all refine' For_invVF z9lF' ?q9k1 ?q9k2 ?_; (case q9k1 => exact rfl); (case q9k2 => exact rfl); k_whole))
  k_with "~exec For Name Name cons nil" => (k_extra "for!"; k_here; (rename Fr _ _ _ _ => z9lF'); (with_unfolding_all refine' For_invVF z9lF' ?q9k1 ?q9k2 ?_; (case q9k1 => exact rfl); (case q9k2 => exact rfl); k_whole))
  trivial
theorem count (w : World) (v : Value) (x : Bool) (n : Nat) (hx : n ≤ 100) (news : List (Addr × Obj)) (hv : DatIn news v (belE n (.nm x)).dat) :
    Tel w 379 [v] 5 news (fun r news' => news' = news ∧ ∃ t, r = .int (n : Int) t) False := by
  have lp : Challenge.rw_pq0356_01.foot = Challenge.rw_pq0356_01.foot ∧ hd.heap_39 = hd.heap_39 := by k_fill; exact ⟨rfl, rfl⟩
  clear lp
  intro mean mg mb dp un gd cn cs a ccd cl outer A₀ base h₀ L m s Q E B F X N T hk hdp hun hret _
  k_with "while!" => refine Stop.out ?_
  refine wpAny_call ?_
  k_dflt ktr_enter
  k_steps
  refine Stop.on ?_
  rename Fr _ _ _ _ => lF'
  rename News _ _ _ _ => lN'
  with_unfolding_all refine' loop_while (σ := Value × Int × Tok) (fun c => [(Str.ofString "tree", c.1), (Str.ofString "count", .int c.2.1 c.2.2)]) [] (fun i c nx => nx = news ∧ DatIn news c.1 (belE i (.nm x)).dat ∧ c.2.1 + (i : Int) = (n : Int)) n (_, _, _) lF' lN' ⟨rfl, ?l2, ?l3⟩ ?l1 ?turn
  case l1 => k_extra "one9"
  case l2 => exact hv
  case l3 => (dsimp only; omega)
  case turn =>
    rintro i ⟨v', c', t'⟩ nx u' h' tk' ⟨rfl, hd', hc'⟩ F' N'
    dsimp only at hd' hc' F' N'
    clear lF' lN'
    cases i with
    | zero =>
      rw [belE] at hd'
      obtain ⟨ad, nn, t1, t2, rfl, hm⟩ := Ex.nm_inv hd'
      k_extra "fold9"
      k_steps
      obtain rfl : c' = (n : Int) := by omega
      exact hret _ _ _ _ (by assumption) (by assumption) ⟨rfl, _, rfl⟩
    | succ i =>
      rw [belE] at hd'
      split at hd'
      · obtain ⟨ad, nn, t1, t2, ve, rfl, hm, he⟩ := Ex.ng_inv hd'
        k_extra "fold9"
        k_steps
        refine' LW.fin i (_, _, _) (by assumption) (by assumption) (by omega) ⟨rfl, he, ?w⟩ ?k ?r
        case k => k_extra "one9"
        case w => (dsimp only; omega)
        case r => k_extra "sameW9"
      · obtain ⟨ad, nn, t1, t2, vl, vr, rfl, hm, he, _⟩ := Ex.bi_inv hd'
        k_extra "fold9"
        k_steps
        refine' LW.fin i (_, _, _) (by assumption) (by assumption) (by omega) ⟨rfl, he, ?w⟩ ?k ?r
        case k => k_extra "one9"
        case w => (dsimp only; omega)
        case r => k_extra "sameW9"
noncomputable def Ex.kids : Ex → List Ex
  | .nm _ => []
  | .rf _ a => [a]
  | .ng e => [e]
  | .bi _ l r => [l, r]
  | .one => []
noncomputable def Ex.hgt : Ex → Nat
  | .nm _ => 1
  | .rf _ a => a.hgt + 1
  | .ng e => e.hgt + 1
  | .bi _ l r => max l.hgt r.hgt + 1
  | .one => 1
noncomputable def hgtL : List Ex → Nat
  | [] => 0
  | e :: r => max e.hgt (hgtL r)
theorem hgtL_app : ∀ a b : List Ex, hgtL (a ++ b) = max (hgtL a) (hgtL b)
  | [], b => by simp [hgtL]
  | e :: r, b => by rw [List.cons_append, hgtL, hgtL, hgtL_app r b]; exact (Nat.max_assoc _ _ _).symm
theorem hgt_kids (e : Ex) : e.hgt = hgtL e.kids + 1 := by cases e <;> simp [Ex.hgt, Ex.kids, hgtL]
theorem hgtL_kids : ∀ es : List Ex, es ≠ [] → hgtL es = hgtL (es.flatMap Ex.kids) + 1
  | [], h => absurd rfl h
  | [e], _ => by simp [hgtL, hgt_kids e]
  | e :: f :: r, _ => by
    have h := hgtL_kids (f :: r) (by simp)
    rw [hgtL, h, hgt_kids e]
    simp only [List.flatMap_cons, hgtL_app]
    exact Nat.add_max_add_right _ _ _
/-- levels of what comes out -/
noncomputable def Ty.lev : Ty → Nat
  | .var => 1
  | .one => 1
  | .ng t => t.lev + 1
  | .bi _ l r => max l.lev r.lev + 1
theorem kqdOk_mono : ∀ {n m : Nat}, n ≤ m → ∀ {d : Dat}, kqdOk n d = true → kqdOk m d = true := by
  intro n
  induction n with
  | zero => intro m _ d h; cases d <;> cases m <;> simp_all [kqdOk]
  | succ n ih =>
    intro m hm d h
    obtain ⟨m, rfl⟩ : ∃ k, m = k + 1 := ⟨m - 1, by omega⟩
    cases d with
    | tuple ds =>
      simp only [kqdOk, List.all_eq_true] at h ⊢
      exact fun x hx => ih (by omega) (h x hx)
    | list ds =>
      simp only [kqdOk, List.all_eq_true] at h ⊢
      exact fun x hx => ih (by omega) (h x hx)
    | _ => simp_all [kqdOk]
theorem fnm_ok : ∀ k : Fin 12, PyData.strOk (fnm k.val) = true := by decide +kernel
theorem lit_ok : PyData.strOk (Str.ofString "name") = true ∧ PyData.strOk (Str.ofString "ref") = true ∧ PyData.strOk (Str.ofString "un") = true ∧ PyData.strOk (Str.ofString "-") = true ∧ PyData.strOk (Str.ofString "bin") = true ∧ PyData.strOk (Str.ofString "real") = true ∧
    PyData.strOk (Str.ofString "const") = true ∧ PyData.strOk (Str.ofString "var") = true ∧ PyData.strOk (Str.ofString "neg") = true ∧ PyData.strOk (Str.ofString "Z") = true := by decide +kernel
theorem nmS_ok : ∀ z, PyData.strOk (nmS z) = true := by decide +kernel
theorem sgn_ok : ∀ z, PyData.strOk (sgn z) = true := by decide +kernel
theorem sgnT_ok : ∀ z, PyData.strOk (sgnT z) = true := by decide +kernel
theorem str_ok {n : Nat} {x : Str} (h : PyData.strOk x = true) : kqdOk n (.str x) = true := by cases n <;> simpa [kqdOk] using h
theorem int_ok {n : Nat} {x : Int} : kqdOk n (.int x) = true := by cases n <;> simp [kqdOk]
theorem tup_ok {n : Nat} {ds : List Dat} (h : ∀ d ∈ ds, kqdOk n d = true) : kqdOk (n + 1) (.tuple ds) = true := by simpa [kqdOk] using h
theorem lst_ok {n : Nat} {ds : List Dat} (h : ∀ d ∈ ds, kqdOk n d = true) : kqdOk (n + 1) (.list ds) = true := by simpa [kqdOk] using h
theorem Ex.ok : ∀ e : Ex, kqdOk (2 * e.hgt) e.dat = true
  | .nm z => by
    rw [Ex.dat, show 2 * (Ex.nm z).hgt = 1 + 1 from rfl]
    exact tup_ok (List.forall_mem_cons.mpr ⟨str_ok lit_ok.1, List.forall_mem_cons.mpr ⟨str_ok (nmS_ok z), List.forall_mem_nil _⟩⟩)
  | .rf k a => by
    rw [Ex.dat, show 2 * (Ex.rf k a).hgt = (2 * a.hgt + 1) + 1 by simp [Ex.hgt]; omega]
    exact tup_ok (List.forall_mem_cons.mpr ⟨str_ok lit_ok.2.1, List.forall_mem_cons.mpr ⟨str_ok (fnm_ok k), List.forall_mem_cons.mpr ⟨lst_ok (List.forall_mem_cons.mpr ⟨Ex.ok a, List.forall_mem_nil _⟩), List.forall_mem_nil _⟩⟩⟩)
  | .ng e => by
    rw [Ex.dat, show 2 * (Ex.ng e).hgt = (2 * e.hgt + 1) + 1 by simp [Ex.hgt]; omega]
    exact tup_ok (List.forall_mem_cons.mpr ⟨str_ok lit_ok.2.2.1, List.forall_mem_cons.mpr ⟨str_ok lit_ok.2.2.2.1, List.forall_mem_cons.mpr ⟨kqdOk_mono (by omega) (Ex.ok e), List.forall_mem_nil _⟩⟩⟩)
  | .bi p l r => by
    rw [Ex.dat, show 2 * (Ex.bi p l r).hgt = (2 * max l.hgt r.hgt + 1) + 1 by simp [Ex.hgt]; omega]
    exact tup_ok (List.forall_mem_cons.mpr ⟨str_ok lit_ok.2.2.2.2.1, List.forall_mem_cons.mpr ⟨str_ok (sgn_ok p), List.forall_mem_cons.mpr ⟨kqdOk_mono (by omega) (Ex.ok l), List.forall_mem_cons.mpr ⟨kqdOk_mono (by omega) (Ex.ok r), List.forall_mem_nil _⟩⟩⟩⟩)
  | .one => by
    rw [Ex.dat, oneE, show 2 * Ex.one.hgt = 1 + 1 from rfl]
    exact tup_ok (List.forall_mem_cons.mpr ⟨str_ok lit_ok.2.2.2.2.2.1, List.forall_mem_cons.mpr ⟨int_ok, List.forall_mem_cons.mpr ⟨int_ok, List.forall_mem_nil _⟩⟩⟩)
theorem oneT_ok : kqdOk 2 oneT = true := by
  rw [oneT]
  exact tup_ok (n := 1) (List.forall_mem_cons.mpr ⟨str_ok lit_ok.2.2.2.2.2.2.1, List.forall_mem_cons.mpr ⟨int_ok, List.forall_mem_cons.mpr ⟨tup_ok (n := 0) (List.forall_mem_cons.mpr ⟨int_ok, List.forall_mem_cons.mpr ⟨int_ok, List.forall_mem_nil _⟩⟩), List.forall_mem_nil _⟩⟩⟩)
theorem Ty.ok : ∀ t : Ty, kqdOk (t.lev + 1) t.dat = true
  | .var => by
    rw [Ty.dat]
    exact tup_ok (List.forall_mem_cons.mpr ⟨str_ok lit_ok.2.2.2.2.2.2.2.1, List.forall_mem_cons.mpr ⟨int_ok, List.forall_mem_cons.mpr ⟨str_ok lit_ok.2.2.2.2.2.2.2.2.2, List.forall_mem_nil _⟩⟩⟩)
  | .one => by rw [Ty.dat]; exact oneT_ok
  | .ng t => by
    rw [Ty.dat]
    exact tup_ok (List.forall_mem_cons.mpr ⟨str_ok lit_ok.2.2.2.2.2.2.2.2.1, List.forall_mem_cons.mpr ⟨int_ok, List.forall_mem_cons.mpr ⟨kqdOk_mono (by simp [Ty.lev]) (Ty.ok t), List.forall_mem_nil _⟩⟩⟩)
  | .bi p l r => by
    rw [Ty.dat]
    exact tup_ok (List.forall_mem_cons.mpr ⟨str_ok (sgnT_ok p), List.forall_mem_cons.mpr ⟨int_ok, List.forall_mem_cons.mpr ⟨kqdOk_mono (by simp [Ty.lev]; omega) (Ty.ok l), List.forall_mem_cons.mpr ⟨kqdOk_mono (by simp [Ty.lev]; omega) (Ty.ok r), List.forall_mem_nil _⟩⟩⟩⟩)
-- what stands in the heap, read as data
mutual
theorem held_in {h : Heap} {S : List (Addr × Obj)} (H : ∀ p ∈ S, h.get? p.1 = some p.2) : ∀ {v : Value} {d : Dat} (n : Nat), DatIn S v d → kqdOk n d = true → ∃ as, Reads h v (kqdP d) as
  | _, _, _, .none, _ => ⟨_, Reads.none⟩
  | _, _, _, .bool b, _ => ⟨_, Reads.bool b⟩
  | _, _, _, .int i t, _ => ⟨_, Reads.int i t⟩
  | _, _, _, .str x t, _ => ⟨_, Reads.str x t⟩
  | _, _, n, .bytes _ _, hk => by cases n <;> simp [kqdOk] at hk
  | _, _, 0, .tuple _ _, hk => by simp [kqdOk] at hk
  | _, _, 0, .list _ _, hk => by simp [kqdOk] at hk
  | _, _, n + 1, .tuple hm r, hk => by
    obtain ⟨as, q⟩ := held_all H n r (by simpa [kqdOk] using hk)
    rw [kqdP]
    exact ⟨as, Reads.tuple (H _ hm) rfl rfl (by simpa using q)⟩
  | _, _, n + 1, .list hm r, hk => by
    obtain ⟨as, q⟩ := held_all H n r (by simpa [kqdOk] using hk)
    rw [kqdP]
    exact ⟨_, Reads.list (H _ hm) rfl rfl (by simpa [PySem.W.listOf] using q)⟩
theorem held_all {h : Heap} {S : List (Addr × Obj)} (H : ∀ p ∈ S, h.get? p.1 = some p.2) : ∀ {vs : List Value} {ds : List Dat} (n : Nat), DatAll S vs ds → (∀ d ∈ ds, kqdOk n d = true) → ∃ as, ReadsAll h vs (kqdPs ds) as
  | _, _, _, .nil, _ => ⟨_, ReadsAll.nil⟩
  | _, _, n, .cons hd r, hk => by
    obtain ⟨as, q⟩ := held_in H n hd (hk _ (.head _))
    obtain ⟨bs, p⟩ := held_all H n r fun d hm => hk d (.tail _ hm)
    rw [kqdPs]
    exact ⟨_, ReadsAll.cons q p⟩
end
section
variable {prog : Program} {w : World} {A : Around} {E : Value → Shared → Prop} {s : Shared} {S : List (Addr × Obj)} {v u : Value} {d e : Dat} {n m : Nat} {Q : Value → Shared → Prop}
open Classical in
theorem dat_eq (H : ∀ p ∈ S, s.heap.get? p.1 = some p.2) (D : DatIn S v d) (D' : DatIn S u e) (hd : kqdOk n d = true) (he : kqdOk m e = true) (hu : A.units + min n m < cLine) (h : Q (.bool (decide (d = e))) s) : wpAny (model prog w) A (compareOp .Eq v u) Q E s := by
  obtain ⟨as, ra⟩ := held_in H n D hd
  obtain ⟨bs, rb⟩ := held_in H m D' he
  have la := kqd_lay n d hd
  have lb := kqd_lay m e he
  have eq : PyData.eqv (kqdP d) (kqdP e) = decide (d = e) := by
    have q := kqd_eqv n d e m hd he
    by_cases hq : d = e
    · rw [decide_eq_true hq]; exact q.mpr hq
    · rw [decide_eq_false hq]; exact Bool.eq_false_iff.mpr fun x => hq (q.mp x)
  refine PySem.SeqAt.compareEq_reads ra rb la.1 lb.1 ?_ (by rw [eq]; exact h)
  have h1 := la.2
  have h2 := lb.2
  omega
open Classical in
theorem dat_ne (H : ∀ p ∈ S, s.heap.get? p.1 = some p.2) (D : DatIn S v d) (D' : DatIn S u e) (hd : kqdOk n d = true) (he : kqdOk m e = true) (hu : A.units + min n m < cLine) (h : Q (.bool (!decide (d = e))) s) : wpAny (model prog w) A (compareOp .NotEq v u) Q E s := by
  obtain ⟨as, ra⟩ := held_in H n D hd
  obtain ⟨bs, rb⟩ := held_in H m D' he
  have la := kqd_lay n d hd
  have lb := kqd_lay m e he
  have eq : PyData.eqv (kqdP d) (kqdP e) = decide (d = e) := by
    have q := kqd_eqv n d e m hd he
    by_cases hq : d = e
    · rw [decide_eq_true hq]; exact q.mpr hq
    · rw [decide_eq_false hq]; exact Bool.eq_false_iff.mpr fun x => hq (q.mp x)
  refine PySem.SeqAt.compareNe_reads ra rb la.1 lb.1 ?_ (by rw [eq]; exact h)
  have h1 := la.2
  have h2 := lb.2
  omega
open Classical in
/-- a list held against the empty one -/
theorem ne_nil {h₀ : Heap} {L a b : Addr} {news : List (Addr × Obj)} {vs : List Value} {ds : List Dat} {i k : Nat} (N : News h₀ L s.heap news) (ha : (a, listOf vs.toArray i) ∈ news) (D : DatAll S vs ds) (sub : ∀ p ∈ S, p ∈ news) (hd : ∀ d ∈ ds, kqdOk n d = true) (hb : (b, listOf [].toArray k) ∈ news)
    (hu : A.units + 1 < cLine) (h : Q (.bool (!ds.isEmpty)) s) : wpAny (model prog w) A (compareOp .NotEq (.ref a) (.ref b)) Q E s := by
  refine dat_ne (n := n + 1) (m := 1) (S := news) (fun p hp => (N p hp).1) (.list ha (D.mono sub)) (.list hb .nil) (lst_ok hd) (lst_ok (n := 0) (List.forall_mem_nil _)) (Nat.lt_of_le_of_lt (Nat.add_le_add_left (Nat.min_le_right _ _) _) hu) ?_
  have e : decide (Dat.list ds = Dat.list []) = ds.isEmpty := by cases ds <;> simp
  rw [e]; exact h
end
/-- a body's number -/
noncomputable def fk (i : Nat) : Fin 12 := ⟨i % 12, Nat.mod_lt _ (by decide)⟩
theorem fk_val {i : Nat} (h : i < 12) : (fk i).val = i := Nat.mod_eq_of_lt h
/-- the bodies of the repeated kind, with the number of puts that the last one asks -/
inductive Rep : List Ex → Nat → Prop
  | base : Rep [.one] 1
  | step {es : List Ex} {p t : Nat} : Rep es p → 1 ≤ t → t ≤ 3 → es.length < 12 → Rep (es ++ [askE (fk (es.length - 1)) t]) (1 + t * p)
noncomputable def coreE (k : Nat) : Ex := if k = 0 then .nm false else .rf (fk (k - 1)) (.nm false)
noncomputable def coreH (k : Nat) : Nat := if k = 0 then 1 else 2
/-- the bodies of the heaped kind, with their levels in all and the law's own tree -/
inductive Hea : List Ex → Nat → Ty → Prop
  | base : Hea [] 0 .var
  | step {es : List Ex} {h wr : Nat} {t : Ty} : Hea es h t → wr ≤ 60 → es.length < 6 → Hea (es ++ [belE wr (coreE es.length)]) (h + (wr + coreH es.length)) (belT wr t)
theorem Rep.len {es : List Ex} {p : Nat} (h : Rep es p) : 1 ≤ es.length ∧ es.length ≤ 12 := by
  induction h with
  | base => exact ⟨Nat.le_refl _, by decide⟩
  | step _ _ _ h4 ih => rw [List.length_append]; simp only [List.length_cons, List.length_nil]; omega
theorem Rep.puts {es : List Ex} {p : Nat} (h : Rep es p) : 1 ≤ p ∧ p ≤ 4 ^ es.length := by
  induction h with
  | base => exact ⟨Nat.le_refl _, by decide⟩
  | @step es p t _ h2 h3 h4 ih =>
    obtain ⟨i1, i2⟩ := ih
    have e : t * p ≤ 3 * p := Nat.mul_le_mul_right _ h3
    refine ⟨by omega, ?_⟩
    rw [List.length_append, show ([askE (fk (es.length - 1)) t] : List Ex).length = 1 from rfl, Nat.pow_succ]
    omega
theorem Rep.top {es : List Ex} {p : Nat} (h : Rep es p) : p ≤ 16777216 := by
  have q := h.puts.2
  have l := h.len.2
  exact Nat.le_trans q (Nat.le_trans (Nat.pow_le_pow_right (by decide) l) (by decide))
theorem Hea.len {es : List Ex} {h : Nat} {t : Ty} (H : Hea es h t) : es.length ≤ 6 := by
  induction H with
  | base => exact Nat.zero_le _
  | step _ _ h4 ih => rw [List.length_append]; simp only [List.length_cons, List.length_nil]; omega
theorem Hea.high {es : List Ex} {h : Nat} {t : Ty} (H : Hea es h t) : h ≤ 62 * es.length := by
  induction H with
  | base => exact Nat.zero_le _
  | @step es h wr t _ h3 h4 ih =>
    rw [List.length_append]
    simp only [List.length_cons, List.length_nil]
    have : coreH es.length ≤ 2 := by unfold coreH; split <;> omega
    omega
theorem fnm_int {x : Int} {i : Nat} (h : x = (i : Int)) (hi : i < 12) : Str.ofString "F" ++ Str.ofString (toString x) = fnm (fk i).val := by
  rw [fk_val hi, h]
  rfl
/-- the first body and what it answers under a name -/
noncomputable def First (b : Ex) (t : Ty) : Prop := (b = .one ∧ t = .one) ∨ ∃ wr, wr ≤ 60 ∧ b = belE wr (.nm false) ∧ t = belT wr .var
/-- the tree that the law asks -/
noncomputable def baseE (n : Nat) : Ex := .rf (fk (n - 1)) (.nm true)
noncomputable def wayE (n : Nat) (x : Int) : Ex := if x = 1 then .ng (baseE n) else if x = 2 then .bi false (baseE n) (.rf (fk 0) (.nm true)) else baseE n
noncomputable def WayD (es : List Ex) (due : Option Ty) (x : Int) (due' : Option Ty) : Prop :=
  (x = 1 ∧ due' = due.map .ng) ∨ (x = 2 ∧ ∃ b f, es[0]? = some b ∧ First b f ∧ due' = due.map fun t => .bi false t f) ∨ (x ≠ 1 ∧ x ≠ 2 ∧ due' = due)
theorem reg_words_Tupl : True := by
  k_with_none
  w_top off
  k_with "~@k_all" => first | assumption | exact lt_ne (by assumption) | exact gt_ne (by assumption) | (refine' List.forall_mem_append.mpr ⟨?q9a, ?q9b⟩; (case q9a => k_all); (case q9b => k_all))
  k_with "~call builtin:len" => (k_here; (with_reducible show wpAny _ _ (call (Value.builtin "len") [Value.ref _]) _ _ _); (refine KM.len_K (by k_asm) (by k_dflt k_mem) rfl (by simp; omega) ?_))
  k_with "~@k_room" => ((try simp only [depth_mark, depth_under_make, depth_under_kw, depth_in1, depth_deeper, depth_caller]); (try dsimp only [ktrTop]); omega)
  k_with "~@k_units" => ((have hcL9 := cLine_is); (try simp only [units_in1, units_deeper, Around.mark_units, units_caller]); (try dsimp only [ktrTop]); omega)
  k_with "~exec While Compare cons nil" => k_extra "while!"
  k_with "~pyIter ref" => k_extra "iter!"
  k_with "~call ref" => k_extra "call!"
  k_with "~exec For Name Call cons nil" => (k_extra "for!"; k_here; (rename Fr _ _ _ _ => z9lF'); (with_unfolding_all refine' For_invVF z9lF' ?q9k1 ?q9k2 ?_; (case q9k1 => exact rfl); (case q9k2 => exact rfl); k_whole))
  k_with "~exec For Name Name cons nil" => (k_extra "for!"; k_here; (rename Fr _ _ _ _ => z9lF'); (with_unfolding_all refine' For_invVF z9lF' ?q9k1 ?q9k2 ?_; (case q9k1 => exact rfl); (case q9k2 => exact rfl); k_whole))
  k_with "~@k_mem" => first | assumption | exact List.mem_cons_self | (refine List.mem_cons_of_mem _ ?_; k_mem) | (refine List.mem_append_left _ ?_; k_mem) | (refine List.mem_append_right _ ?_; k_mem)
  k_with "~subscriptTail Name Slice ref ref" => (k_here; (with_reducible show wpAny _ _ (subscriptTail _ (PySem.Expr.Slice _ none none _) (Value.ref _) (Value.ref _)) _ _ _); k_dflt (refine' tup_from ?q9F ?q9N ?q9b ?q9o ?q9l ?q9e ?_ ?q9s ?q9t ?q9z; (case q9F => k_asm); (case q9N => k_asm); (case q9b => k_mem); (case q9o => decide); (case q9l => exact Nat.le_of_ble_eq_true rfl); (case q9e => kl_lit); (case q9s => with_unfolding_all rfl); (case q9t => (intro _; with_unfolding_all rfl)); (case q9z => (simp only [List.length_cons, List.length_nil, sizeLine_eq]; omega))); intro z9D' z9h' z9F' z9N' z9l1; (try k_lt z9l1); (try k_sweep))
  k_with "~exec For Name Subscript cons nil" => (k_here; (rename Fr _ _ _ _ => z9lF'); (with_unfolding_all refine' For_turns z9lF' ?_; k_whole))
  k_with "~exec For Name Name cons nil" => (k_extra "turns!"; k_here; (rename Fr _ _ _ _ => z9lF'); (with_unfolding_all refine' For_turns z9lF' ?_; k_whole))
  k_with "~pyIter ref" => (k_here; (with_reducible show wpAny _ _ (pyIter (Value.ref _)) (fun it s₂ => TurnsAt _ _ _ _ _ _ _ _ _ it s₂) _ _); (rename Fr _ _ _ _ => z9lF'); (rename News _ _ _ _ => z9lN'); k_dflt (refine' iter_tupTurns ?q9h z9lF' z9lN' ?q9m ?q9c ?q9d ?_; (case q9h => with_unfolding_all rfl); (case q9m => k_mem); (case q9c => exact rfl); (case q9d => exact rfl)); clear z9lF'; intro z9i' z9l1; (try k_lt z9l1))
  k_with "~pyIter ref" => (k_here; (with_reducible show wpAny _ _ (pyIter (Value.ref _)) (fun it s₂ => TurnsAt _ _ _ _ _ _ _ _ _ it s₂) _ _); (rename Fr _ _ _ _ => z9lF'); (rename News _ _ _ _ => z9lN'); k_dflt (refine' iter_listTurns ?q9h z9lF' z9lN' ?q9m ?q9c ?q9d ?_; (case q9h => with_unfolding_all rfl); (case q9m => k_mem); (case q9c => exact rfl); (case q9d => exact rfl)); clear z9lF'; intro z9i' z9l1; (try k_lt z9l1))
  k_with "~UnrEndW" => ((rename Fr _ _ _ _ => z9lF'); (rename News _ _ _ _ => z9lN'); (refine' unrEnd z9lF' z9lN' ?q9c9 ?q9o9 ⟨?q9k9, ?_⟩; (case q9c9 => repeat' (first | exact Cut.base | refine' Cut.cons ?_)); (case q9o9 => k_extra "offE9"); (case q9k9 => k_subL)); clear z9lF' z9lN')
  k_with "~@size_fits" => (simp only [List.size_toArray, List.length_append, List.length_cons, List.length_nil, sizeLine_eq]; omega)
  k_with "~call builtin:list.extend" => (k_here; (with_reducible show wpAny _ _ (call (Value.builtin _) [Value.ref _, Value.ref _]) _ _ _); k_dflt (refine' ext_list ?q9F ?q9N ?q9b ?q9ne ?q9U ?q9z ?_; (case q9F => k_asm); (case q9N => k_asm); (case q9b => k_mem); (case q9U => k_upd); (case q9ne => exact List.cons_ne_nil _ _); (case q9z => (simp only [List.length_append, List.length_cons, List.length_nil]; omega))); intro z9h' z9F' z9N'; (try k_sweep))
  k_with "~call builtin:list.pop" => (k_here; (with_reducible show wpAny _ _ (call (Value.builtin _) [Value.ref _]) _ _ _); k_dflt (refine' pop_list ?q9F ?q9N ?q9U ?q9z ?_; (case q9F => k_asm); (case q9N => k_asm); (case q9U => k_upd); (case q9z => omega)); intro z9h' z9F' z9N'; (try k_sweep))
  trivial
section
variable {prog : Program} {w : World} {A : Around} {E : Value → Shared → Prop} {s : Shared} {h₀ : Heap} {L t : Addr} {m : Str → Option Value} {news : List (Addr × Obj)} {value slice : PySem.Expr} {vs ws : List Value} {n : Nat} {x : Int} {u : Tok} {Q : Value → Shared → Prop}
theorem tup_from (F : Fr h₀ L s.heap m) (N : News h₀ L s.heap news) (hm : (t, ({ cls := .type "tuple", data := .seq vs.toArray n } : Obj)) ∈ news) (h1 : 1 ≤ x) (ha : x.toNat ≤ vs.length) (e : vs.drop x.toNat = ws)
    (h : ∀ D h', Fr h₀ L h' m → News h₀ L h' ((D, ({ cls := .type "tuple", data := .seq ws.toArray 0 } : Obj)) :: news) → (∀ p ∈ news, p.1 < D) → Q (.ref D) { s with heap := h' })
    (hs : subscripted slice false (.ref t) (.ref s.heap.objs.size) = operate [.ref s.heap.objs.size, .ref t] (getItem (.ref t) (.ref s.heap.objs.size))) (hg : ∀ r, letTemporaryGo value (.ref t) r = pure ())
    (hz : vs.length ≤ sizeLine) :
    wpAny (model prog w) A (subscriptTail value slice (.ref t) (.ref s.heap.objs.size)) Q E { s with heap := s.heap.push { cls := .type "slice", data := .fields #[.int x u, .none, .none] } } := by
  obtain ⟨a, rfl⟩ : ∃ a : Nat, x = (a : Int) := ⟨x.toNat, by omega⟩
  simp only [Int.toNat_natCast] at ha e
  refine slice_tuple_from F N (items := vs.toArray) ⟨_, (N _ hm).1, rfl, _, rfl⟩ (by omega) (by simpa using ha) (fun h' F' N' => h _ h' F' ?_ fun p hp => Nat.lt_succ_of_lt (Heap.lt_size (N p hp).1)) hs hg (by simpa using hz)
  rw [← e]
  exact N'
end
local macro_rules | `(tactic| k_mem) => `(tactic| k_extra "~@k_mem")
/-- a ledger without one entry -/
inductive Cut (q : Addr × Obj) : List (Addr × Obj) → List (Addr × Obj) → Prop
  | base {l : List (Addr × Obj)} : Cut q (q :: l) l
  | cons {a : Addr × Obj} {l nx : List (Addr × Obj)} : Cut q l nx → Cut q (a :: l) (a :: nx)
theorem Cut.sub {q : Addr × Obj} {l nx : List (Addr × Obj)} (h : Cut q l nx) : q ∈ l ∧ ∀ p ∈ nx, p ∈ l := by
  induction h with
  | base => exact ⟨.head _, fun p hp => .tail _ hp⟩
  | cons _ ih => exact ⟨.tail _ ih.1, fun p hp => (List.mem_cons.mp hp).elim (fun e => e ▸ .head _) fun h => .tail _ (ih.2 p h)⟩
theorem unrEnd {L : Addr} {q : Addr × Obj} {h₀ : Heap} {rest : (Str → Option Value) → List (Addr × Obj) → Prop} {s₁ : Shared} {h' : Heap} {tk : Nat} {m' : Str → Option Value} {all nx : List (Addr × Obj)} (F : Fr h₀ L h' m') (N : News h₀ L h' all)
    (c : Cut q all nx) (off : ∀ p ∈ nx, p.1 ≠ q.1) (r : rest m' nx) : UnrEndW h₀ L s₁ [q] rest { s₁ with heap := h', toks := tk } :=
  ⟨h', tk, m', nx, rfl, F, fun p hp => by
    rcases List.mem_cons.mp hp with rfl | hp
    · exact N _ c.sub.1
    · exact N p (c.sub.2 p hp), fun p hp t ht => by rw [List.mem_singleton.mp ht]; exact off p hp, r⟩
theorem LJ.finS {σ : Type} {x : Str} {h₀ : Heap} {ps : σ → List (Str × Value)} {stored : List Str} {m₀ m' : Str → Option Value} {Inv : σ → List (Addr × Obj) → Prop} {L : Addr} {own news' : List (Addr × Obj)} {s₁ : Shared} {h' : Heap} {tk : Nat} {q : Addr × Obj} (nx : List (Addr × Obj)) (c : σ)
    (F : Fr h₀ L h' m') (N : News h₀ L h' news') (s1 : ∀ p ∈ nx, p ∈ news') (s2 : ∀ p ∈ own, p ∈ news') (hoff : OwnOff own (nx.map (·.1))) (hq : q ∈ nx) (hi : Inv c nx) (hk : ∀ p ∈ ps c, m' p.1 = some p.2)
    (hr : ∀ z, z ≠ x → (∀ p ∈ ps c, z ≠ p.1) → stored.contains z = false → m' z = m₀ z) :
    InvEndG h₀ L (fun m' nx' => q ∈ nx' ∧ LJ x ps stored m₀ Inv m' nx') own s₁ { s₁ with heap := h', toks := tk } := ⟨h', tk, m', news', nx, rfl, F, N, s1, s2, hoff, hq, c, hi, hk, hr⟩
local macro_rules | `(tactic| size_fits) => `(tactic| k_extra "~@size_fits")
theorem ext_list {prog : Program} {w : World} {A : Around} {E : Value → Shared → Prop} {s : Shared} {h₀ : Heap} {L D b : Addr} {m : Str → Option Value} {news news' : List (Addr × Obj)} {vs ws : List Value} {n n2 : Nat} {Q : Value → Shared → Prop} (F : Fr h₀ L s.heap m) (N : News h₀ L s.heap news)
    (hb : (b, listOf ws.toArray n2) ∈ news) (hne : ws ≠ []) (U : Upd D (listOf vs.toArray n) (listOf (vs ++ ws).toArray (n + 1)) news news') (hz : vs.length + ws.length ≤ 16000000)
    (h : ∀ h', Fr h₀ L h' m → News h₀ L h' news' → Q .none { s with heap := h' }) : wpAny (model prog w) A (call (.builtin "list.extend") [.ref D, .ref b]) Q E s := by
  refine kl_extend F N hb (l := vs ++ ws) (by simp) (by simpa using hne) U ?_ ?_ ?_ h
  · have q : PySem.Builtin.List.listTooLong (vs.toArray.size + ws.toArray.size) = false := by
      rw [PySem.Builtin.List.listTooLong, sizeLine_eq]; simp; omega
    rw [q]; simp
  · rw [sizeLine_eq]; simp; omega
  · rw [sizeLine_eq]; simp; omega
theorem last_app {y : Value} : ∀ p : List Value, kl_last (p ++ [y]) = some (p, y)
  | [] => rfl
  | a :: p => by
    have h := last_app (y := y) p
    cases p with
    | nil => rfl
    | cons b p => simp only [List.cons_append, kl_last] at h ⊢; rw [h]
theorem pop_list {prog : Program} {w : World} {A : Around} {E : Value → Shared → Prop} {s : Shared} {h₀ : Heap} {L D : Addr} {m : Str → Option Value} {news news' : List (Addr × Obj)} {vs : List Value} {y : Value} {n : Nat} {Q : Value → Shared → Prop} (F : Fr h₀ L s.heap m) (N : News h₀ L s.heap news)
    (U : Upd D (listOf (vs ++ [y]).toArray n) (listOf vs.toArray (n + 1)) news news') (hz : vs.length ≤ 16000000)
    (h : ∀ h', Fr h₀ L h' m → News h₀ L h' news' → Q y { s with heap := h' }) : wpAny (model prog w) A (call (.builtin "list.pop") [.ref D]) Q E s :=
  kl_pop F N (last_app vs) U (by rw [sizeLine_eq]; simp; omega) h
/-- one entry drawn to the head -/
inductive Rot (news : List (Addr × Obj)) (T : Addr) : List (Addr × Obj) → List (Addr × Obj) → Obj → Prop
  | here {tl : List (Addr × Obj)} {o : Obj} : Rot news T ((T, o) :: (tl ++ news)) tl o
  | next {a : Addr × Obj} {all tl : List (Addr × Obj)} {o : Obj} : Rot news T all tl o → Rot news T (a :: all) (a :: tl) o
theorem Rot.sub {news all tl : List (Addr × Obj)} {T : Addr} {o : Obj} (h : Rot news T all tl o) : ∀ p ∈ (T, o) :: (tl ++ news), p ∈ all := by
  induction h with
  | here => exact fun p hp => hp
  | next _ ih =>
    intro p hp
    rcases List.mem_cons.mp hp with rfl | hp
    · exact .tail _ (ih _ (.head _))
    · rcases List.mem_cons.mp hp with rfl | hp
      · exact .head _
      · exact .tail _ (ih _ (.tail _ hp))
theorem LW.finR {s : Shared} {Q : Flow → Shared → Prop} {h₀ : Heap} {σ : Type} {ps : σ → List (Str × Value)} {stored : List Str} {m₀ m' : Str → Option Value} {Inv : Nat → σ → List (Addr × Obj) → Prop} {L T : Addr} {o : Obj} {all tl : List (Addr × Obj)} {h' : Heap} {tk n : Nat} (news : List (Addr × Obj)) (n' : Nat) (c : σ)
    (F : Fr h₀ L h' m') (N : News h₀ L h' all) (r : Rot news T all tl o) (hn : n' < n) (hi : Inv n' c ((T, o) :: (tl ++ news))) (hk : ∀ p ∈ ps c, m' p.1 = some p.2)
    (hr : ∀ z, (∀ p ∈ ps c, z ≠ p.1) → stored.contains z = false → m' z = m₀ z) :
    WhileStep2 h₀ L s (fun n => LW ps stored m₀ (Inv n)) Q n .next { s with heap := h', toks := tk } := LW.fin n' c F (news_sub N r.sub) hn hi hk hr
theorem reg_words_Hgt : True := by
  k_with_none
  w_top off
  k_with "for!" => fail "no word"
  k_with "memr9" => first
    | with_reducible assumption
    | with_reducible exact List.mem_cons_self
    | (with_reducible refine List.mem_cons_of_mem _ ?_; k_extra "memr9")
    | (with_reducible refine List.mem_append_right _ ?_; k_extra "memr9")
    | (with_reducible refine List.mem_append_left _ ?_; k_extra "memr9")
  k_with "mem9" => first
    | k_extra "memr9"
    | assumption
    | k_mem
    | (simp only [List.mem_cons, List.mem_append] at *; simp only [*, true_or, or_true])
    | grind
  k_with "sub8" => first
    | exact List.forall_mem_nil _
    | (refine' List.forall_mem_cons.mpr ⟨?m8, ?_⟩; (case m8 => k_mem); k_extra "sub8")
    | (refine' List.forall_mem_append.mpr ⟨?m8, ?_⟩; (case m8 => k_extra "sub8"); k_extra "sub8")
    | (intro p8 h8; k_mem)
  k_with "sub9" => first
    | k_extra "sub8"
    | (intro p9 h9; first
      | exact h9
      | (simp only [List.mem_cons, List.mem_append] at h9 ⊢; grind))
  k_with "dat9" => repeat' (first
    | exact DatIn.str _ _
    | exact DatIn.int _ _
    | exact DatAll.nil
    | assumption
    | (refine' DatAll.cons ?_ ?_)
    | (refine' DatIn.tuple ?m9 ?_; (case m9 => k_extra "mem9"))
    | (refine' DatIn.list ?m9 ?_; (case m9 => k_extra "mem9"))
    | (refine' DatIn.mono ?s9 ?h9; (case h9 => assumption); (case s9 => k_extra "sub9")))
  k_with "and9" => first
    | ((fail_if_success (fail_if_success (rename _ ∧ _ => hc9))); refine foldP (fun G9 hG9 => ?_); (repeat' (rename _ ∧ _ => hc9; refine and_go hc9 (fun hc8 hc7 => ?_); clear hc9)); refine hG9 ?_; clear hG9 G9)
    | skip
  k_with "fold9" => ((fail_if_success (fail_if_success k_fold)); refine (let q9 := _; let e9 := _; (?_ : wpAny _ _ _ q9 e9 _)))
  k_with "ne9" => first
    | assumption
    | (refine' ne_all ?h9 ?s9; (case h9 => assumption); (case s9 => k_extra "sub9"))
    | (refine' ne_allT ?h9 ?s9; (case h9 => assumption); (case s9 => k_extra "sub9"))
  k_with "off9" => (
    refine' off_of ?_
    repeat' (first
    | exact offL_nil
    | (refine' offL_sub ?h9 ?s9; (case h9 => assumption); (case s9 => k_extra "sub9"))
    | (refine' offL_cons ?o9 ?_; (case o9 => k_extra "ne9"))
    | (refine' offL_app ?_ ?_)))
  k_with "split9" => first | exact Split.base | (refine Split.cons ?_; k_extra "split9") | (refine Split.app ?_; k_extra "split9")
  k_with "same9" => (intro z9 h1 h2 h3; (simp only [List.mem_cons, List.not_mem_nil, or_false, forall_eq_or_imp, forall_eq] at h2); (simp only [List.contains_cons, List.contains_nil, Bool.or_false, Bool.or_eq_false_iff, beq_eq_false_iff_ne, ne_eq] at h3); (simp [h1, h2, h3, kstB]; done))
  k_with "sameW9" => (intro z9 h2 h3; (simp only [List.mem_cons, List.not_mem_nil, or_false, forall_eq_or_imp, forall_eq] at h2); (simp only [List.contains_cons, List.contains_nil, Bool.or_false, Bool.or_eq_false_iff, beq_eq_false_iff_ne, ne_eq] at h3); (simp [h2, h3, kstB]; done))
  k_with "one9" => (first | exact List.forall_mem_nil _ | (refine' List.forall_mem_cons.mpr ⟨?a9, ?_⟩; (case a9 => with_unfolding_all rfl); k_extra "one9"))
  k_with "offE9" => ((try dsimp only); (repeat (refine' List.forall_mem_cons.mpr ⟨?o9, ?_⟩; (case o9 => ((try dsimp only); k_ne)))); (repeat' (rename _ ∧ _ => hc9; rcases hc9 with ⟨hc8, hc7⟩)); first | exact List.forall_mem_nil _ | assumption | exact lt_ne (by assumption) | exact gt_ne (by assumption))
  k_with "rot9" => repeat' (first | exact Rot.here | refine' Rot.next ?_)
  k_with "nes8" => repeat' (first | assumption | exact List.forall_mem_nil _ | (refine' List.forall_mem_cons.mpr ⟨?m8, ?_⟩; (case m8 => dsimp only; first | exact Nat.ne_of_gt (by assumption) | exact Nat.ne_of_lt (by assumption) | assumption | exact Ne.symm (by assumption) | k_ne)) | exact lt_ne (by assumption) | refine' List.forall_mem_append.mpr ⟨?_, ?_⟩)
  k_with "offs8" => repeat' (first | assumption | exact offL_nil | exact offL_swap (by assumption) | (refine' offL_cons ?m8 ?_; (case m8 => dsimp only; first | exact lt_ne (by assumption) | (refine' lt_ne2 ?A8 ?B8; (case B8 => assumption); (case A8 => assumption)) | k_extra "ne9")) | refine' offL_app ?_ ?_)
  k_with "sel9" => repeat' (first | exact Sel.base | (refine' Sel.old ?m9 ?_; (case m9 => assumption)) | (refine' Sel.cut ?m9 ?_; (case m9 => repeat (first | exact List.mem_cons_self | refine List.mem_cons_of_mem _ ?_))) | refine' Sel.keep ?_ | refine' Sel.app ?_)
  k_with "mems9" => repeat' (first | exact List.forall_mem_nil _ | (refine' List.forall_mem_cons.mpr ⟨?m9, ?_⟩; (case m9 => k_extra "mem9")))
  k_with "isd9" => repeat' (first | (refine' dat_cons ?m9 ?_; (case m9 => first | (intro _; k_mem) | (intro q9; exact absurd q9 (dict_no (by assumption))) | (intro q9; exact absurd q9 (by simp [isDat, instObj, dictOf, itR])))) | (refine' dat_app ?m9 ?_; (case m9 => k_extra "sub9")) | (refine' dat_end ?m9; (case m9 => k_extra "sub9")))
  k_with "~execs cons" => k_extra "fold9"
  k_with "~call builtin:isinstance" => (k_here; (with_reducible show wpAny _ _ (call _ [Value.ref _, Value.type _]) _ _ _); kit_cont; k_dflt kit_objs)
  k_with "~eval Call" => k_extra "fold9"
  k_with "~eval Compare" => k_extra "fold9"
  k_with "~eval BinOp" => k_extra "fold9"
  k_with "~eval Tuple" => k_extra "fold9"
  k_with "~eval List" => k_extra "fold9"
  k_with "~eval Subscript" => k_extra "fold9"
  k_with "~eval Attribute" => k_extra "fold9"
  k_with "~eval IfExp" => k_extra "fold9"
  k_with "lt9" => first
    | with_reducible assumption
    | exact cj0 (by with_reducible assumption)
    | exact cj1 (by with_reducible assumption)
    | exact cj2 (by with_reducible assumption)
    | exact cj3 (by with_reducible assumption)
    | exact cj4 (by with_reducible assumption)
    | exact cj5 (by with_reducible assumption)
    | exact cj6 (by with_reducible assumption)
    | exact cj7 (by with_reducible assumption)
    | exact cz1 (by with_reducible assumption)
    | exact cz2 (by with_reducible assumption)
    | exact cz3 (by with_reducible assumption)
    | exact cz4 (by with_reducible assumption)
    | exact cz5 (by with_reducible assumption)
    | exact cz6 (by with_reducible assumption)
    | exact cz7 (by with_reducible assumption)
    | fail "lt9"
  k_with "om9" => first
    | with_reducible assumption
    | exact Nat.le_of_ble_eq_true rfl
    | exact Ne.symm (by with_reducible assumption)
    | ((with_reducible show (_ : Nat) ≠ _); first | exact Nat.ne_of_lt (by k_extra "lt9") | exact Nat.ne_of_gt (by k_extra "lt9"))
    | ((with_reducible show (_ : Nat) < _); first
      | exact rm1 (by with_reducible assumption) (by exact rfl)
      | exact rm0 (by with_reducible assumption)
      | exact rn1 (by with_reducible assumption) (by exact rfl)
      | exact rn3 (by with_reducible assumption) (by exact rfl)
      | exact rf2 (by with_reducible assumption) (by with_reducible assumption) (by exact rfl)
      | exact rm3 (by with_reducible assumption) (by exact rfl)
      | exact uf2 (by with_reducible assumption) (by with_reducible assumption) (by exact rfl)
      | exact um3 (by with_reducible assumption) (by exact rfl)
      | exact rf1 (by with_reducible assumption) (by with_reducible assumption) (by exact rfl)
      | exact rf3 (by with_reducible assumption) (by with_reducible assumption) (by exact rfl)
      | exact uf3 (by with_reducible assumption) (by with_reducible assumption) (by exact rfl)
      | k_extra "lt9")
    | fail "om9"
  k_with "~@k_all" => first | assumption | exact lt_ne (by assumption) | exact gt_ne (by assumption) | (refine' List.forall_mem_append.mpr ⟨?q9a, ?q9b⟩; (case q9a => k_all); (case q9b => k_all))
  k_with "~call builtin:len" => (k_here; (with_reducible show wpAny _ _ (call (Value.builtin "len") [Value.ref _]) _ _ _); (refine KM.len_K (by k_asm) (by k_dflt k_mem) rfl (by simp; omega) ?_))
  k_with "~@k_room" => ((try simp only [depth_mark, depth_under_make, depth_under_kw, depth_in1, depth_deeper, depth_caller]); (try dsimp only [ktrTop]); omega)
  k_with "~@k_units" => ((have hcL9 := cLine_is); (try simp only [units_in1, units_deeper, Around.mark_units, units_caller]); (try dsimp only [ktrTop]); omega)
  k_with "~exec While Compare cons nil" => k_extra "while!"
  k_with "~pyIter ref" => k_extra "iter!"
  k_with "~call ref" => k_extra "call!"
  k_with "~exec For Name Call cons nil" => (k_extra "for!"; k_here; (rename Fr _ _ _ _ => z9lF'); (with_unfolding_all refine' For_invVF z9lF' ?q9k1 ?q9k2 ?_; (case q9k1 => exact rfl); (case q9k2 => exact rfl); k_whole))
  k_with "~exec For Name Name cons nil" => (k_extra "for!"; k_here; (rename Fr _ _ _ _ => z9lF'); (with_unfolding_all refine' For_invVF z9lF' ?q9k1 ?q9k2 ?_; (case q9k1 => exact rfl); (case q9k2 => exact rfl); k_whole))
  k_with "~@k_mem" => first | assumption | exact List.mem_cons_self | (refine List.mem_cons_of_mem _ ?_; k_mem) | (refine List.mem_append_left _ ?_; k_mem) | (refine List.mem_append_right _ ?_; k_mem)
  k_with "~subscriptTail Name Slice ref ref" => (k_here; (with_reducible show wpAny _ _ (subscriptTail _ (PySem.Expr.Slice _ none none _) (Value.ref _) (Value.ref _)) _ _ _); k_dflt (refine' tup_from ?q9F ?q9N ?q9b ?q9o ?q9l ?q9e ?_ ?q9s ?q9t ?q9z; (case q9F => k_asm); (case q9N => k_asm); (case q9b => k_mem); (case q9o => decide); (case q9l => exact Nat.le_of_ble_eq_true rfl); (case q9e => kl_lit); (case q9s => with_unfolding_all rfl); (case q9t => (intro _; with_unfolding_all rfl)); (case q9z => (simp only [List.length_cons, List.length_nil, sizeLine_eq]; omega))); intro z9D' z9h' z9F' z9N' z9l1; (try k_lt z9l1); (try k_sweep))
  k_with "~exec For Name Subscript cons nil" => (k_here; (rename Fr _ _ _ _ => z9lF'); (with_unfolding_all refine' For_turns z9lF' ?_; k_whole))
  k_with "~exec For Name Name cons nil" => (k_extra "turns!"; k_here; (rename Fr _ _ _ _ => z9lF'); (with_unfolding_all refine' For_turns z9lF' ?_; k_whole))
  k_with "~pyIter ref" => (k_here; (with_reducible show wpAny _ _ (pyIter (Value.ref _)) (fun it s₂ => TurnsAt _ _ _ _ _ _ _ _ _ it s₂) _ _); (rename Fr _ _ _ _ => z9lF'); (rename News _ _ _ _ => z9lN'); k_dflt (refine' iter_tupTurns ?q9h z9lF' z9lN' ?q9m ?q9c ?q9d ?_; (case q9h => with_unfolding_all rfl); (case q9m => k_mem); (case q9c => exact rfl); (case q9d => exact rfl)); clear z9lF'; intro z9i' z9l1; (try k_lt z9l1))
  k_with "~pyIter ref" => (k_here; (with_reducible show wpAny _ _ (pyIter (Value.ref _)) (fun it s₂ => TurnsAt _ _ _ _ _ _ _ _ _ it s₂) _ _); (rename Fr _ _ _ _ => z9lF'); (rename News _ _ _ _ => z9lN'); k_dflt (refine' iter_listTurns ?q9h z9lF' z9lN' ?q9m ?q9c ?q9d ?_; (case q9h => with_unfolding_all rfl); (case q9m => k_mem); (case q9c => exact rfl); (case q9d => exact rfl)); clear z9lF'; intro z9i' z9l1; (try k_lt z9l1))
  k_with "~UnrEndW" => ((rename Fr _ _ _ _ => z9lF'); (rename News _ _ _ _ => z9lN'); (refine' unrEnd z9lF' z9lN' ?q9c9 ?q9o9 ⟨?q9k9, ?_⟩; (case q9c9 => repeat' (first | exact Cut.base | refine' Cut.cons ?_)); (case q9o9 => k_extra "offE9"); (case q9k9 => k_subL)); clear z9lF' z9lN')
  k_with "~@size_fits" => (simp only [List.size_toArray, List.length_append, List.length_cons, List.length_nil, sizeLine_eq]; omega)
  k_with "~call builtin:list.extend" => (k_here; (with_reducible show wpAny _ _ (call (Value.builtin _) [Value.ref _, Value.ref _]) _ _ _); k_dflt (refine' ext_list ?q9F ?q9N ?q9b ?q9ne ?q9U ?q9z ?_; (case q9F => k_asm); (case q9N => k_asm); (case q9b => k_mem); (case q9U => k_upd); (case q9ne => exact List.cons_ne_nil _ _); (case q9z => (simp only [List.length_append, List.length_cons, List.length_nil]; omega))); intro z9h' z9F' z9N'; (try k_sweep))
  k_with "~call builtin:list.pop" => (k_here; (with_reducible show wpAny _ _ (call (Value.builtin _) [Value.ref _]) _ _ _); k_dflt (refine' pop_list ?q9F ?q9N ?q9U ?q9z ?_; (case q9F => k_asm); (case q9N => k_asm); (case q9U => k_upd); (case q9z => omega)); intro z9h' z9F' z9N'; (try k_sweep))
  trivial
theorem okL : ∀ es : List Ex, ∀ d ∈ es.map Ex.dat, kqdOk (2 * hgtL es) d = true := by
  intro es
  induction es with
  | nil => exact fun d hd => nomatch hd
  | cons e r ih =>
    intro d hd
    rcases List.mem_cons.mp hd with rfl | hd
    · exact kqdOk_mono (by rw [hgtL]; omega) e.ok
    · exact kqdOk_mono (by rw [hgtL]; omega) (ih d hd)
noncomputable def Ex.size : Ex → Nat
  | .nm _ => 1
  | .rf _ a => a.size + 1
  | .ng e => e.size + 1
  | .bi _ l r => l.size + r.size + 1
  | .one => 1
noncomputable def sizeL : List Ex → Nat
  | [] => 0
  | e :: r => e.size + sizeL r
theorem sizeL_app : ∀ a b : List Ex, sizeL (a ++ b) = sizeL a + sizeL b
  | [], b => by simp [sizeL]
  | e :: r, b => by rw [List.cons_append, sizeL, sizeL, sizeL_app r b]; omega
theorem size_kids (e : Ex) : e.size = sizeL e.kids + 1 := by cases e <;> simp [Ex.size, Ex.kids, sizeL]
theorem sizeL_kids : ∀ es : List Ex, sizeL (es.flatMap Ex.kids) + es.length = sizeL es
  | [] => rfl
  | e :: r => by
    have h := sizeL_kids r
    have q := size_kids e
    rw [List.flatMap_cons, sizeL_app, sizeL, List.length_cons]; omega
theorem size_pos (e : Ex) : 1 ≤ e.size := by have := size_kids e; omega
theorem len_sizeL (es : List Ex) : es.length ≤ sizeL es := by have := sizeL_kids es; omega
theorem take_le : ∀ (es : List Ex) (i : Nat), ((es.take i).flatMap Ex.kids).length ≤ (es.flatMap Ex.kids).length
  | [], i => by simp
  | e :: r, 0 => by simp
  | e :: r, i + 1 => by
    have h := take_le r i
    rw [List.take_succ_cons, List.flatMap_cons, List.flatMap_cons, List.length_append, List.length_append]; omega
theorem take_len (es : List Ex) (i : Nat) : ((es.take i).flatMap Ex.kids).length ≤ sizeL es := by
  have h := take_le es i
  have q := len_sizeL (es.flatMap Ex.kids)
  have p := sizeL_kids es
  omega
theorem Ex.shape {S : List (Addr × Obj)} {v : Value} {e : Ex} (h : DatIn S v e.dat) : ∃ ad n vs, v = .ref ad ∧ (ad, tupO vs n) ∈ S := by
  have q : ∃ ds, e.dat = .tuple ds := by cases e <;> exact ⟨_, rfl⟩
  obtain ⟨ds, q⟩ := q
  rw [q] at h
  obtain ⟨ad, n, vs, e, m, _⟩ := dtupn h
  exact ⟨_, _, _, e, m⟩
theorem datAll_get {S : List (Addr × Obj)} {vs : List Value} {es : List Ex} {i : Nat} {v : Value} (h : DatAll S vs (es.map Ex.dat)) (hv : vs[i]? = some v) : ∃ e, es[i]? = some e ∧ DatIn S v e.dat := by
  induction es generalizing vs i with
  | nil =>
    obtain rfl := dnil h
    simp at hv
  | cons e0 es ih =>
    rw [List.map_cons] at h
    obtain ⟨u, r, rfl, h1, h2⟩ := dcons h
    cases i with
    | zero =>
      obtain rfl : u = v := by simpa using hv
      exact ⟨e0, rfl, h1⟩
    | succ i =>
      obtain ⟨e, he, hd⟩ := ih (i := i) h2 (by simpa using hv)
      exact ⟨e, by simpa using he, hd⟩
theorem datAll_app {S : List (Addr × Obj)} {vs vs' : List Value} {es es' : List Ex} (h : DatAll S vs (es.map Ex.dat)) (q : DatAll S vs' (es'.map Ex.dat)) : DatAll S (vs ++ vs') ((es ++ es').map Ex.dat) := by
  induction es generalizing vs with
  | nil =>
    obtain rfl := dnil h
    exact q
  | cons e0 es ih =>
    rw [List.map_cons] at h
    obtain ⟨u, r, rfl, h1, h2⟩ := dcons h
    exact .cons h1 (ih h2)
theorem datAll_len {S : List (Addr × Obj)} {vs : List Value} {es : List Ex} (h : DatAll S vs (es.map Ex.dat)) : es.length = vs.length := by have := h.length; simpa using this.symm
theorem take_kids {es : List Ex} {i : Nat} {e : Ex} (h : es[i]? = some e) : (es.take (i + 1)).flatMap Ex.kids = (es.take i).flatMap Ex.kids ++ e.kids := by
  rw [List.take_add_one, h, List.flatMap_append]; simp
theorem height (w : World) (v : Value) (e : Ex) (news : List (Addr × Obj)) (hv : DatIn news v e.dat) (hz : e.size ≤ 10000) :
    Tel w 201 [v] 5 news (fun r news' => ∃ tl t, news' = tl ++ news ∧ r = .int (e.hgt : Int) t) False := by
  have lp : Challenge.rw_pq0356_01.foot = Challenge.rw_pq0356_01.foot ∧ hd.heap_39 = hd.heap_39 := by k_fill; exact ⟨rfl, rfl⟩
  clear lp
  intro mean mg mb dp un gd cn cs a ccd cl outer A₀ base h₀ L m s Q E B F X N T hk hdp hun hret _
  k_with "while!" => refine Stop.out ?_
  refine wpAny_call ?_
  k_dflt ktr_enter
  k_steps
  refine Stop.on ?_
  rename Fr _ _ _ _ => lF'
  rename News _ _ _ _ => lN'
  with_unfolding_all refine' loop_while (σ := Addr × Int × Tok) (fun c => [(Str.ofString "count", .int c.2.1 c.2.2), (Str.ofString "level", .ref c.1)]) [Str.ofString "below", Str.ofString "node", Str.ofString "part"] (fun i c nx => ∃ tl vs nl es, nx = tl ++ news ∧ (c.1, listOf (List.toArray vs) nl) ∈ nx ∧ DatAll nx vs (es.map Ex.dat) ∧ c.2.1 + (hgtL es : Int) = (e.hgt : Int) ∧ sizeL es ≤ 10000 ∧ i = hgtL es) (hgtL [e]) (_, _, _) lF' lN' ⟨[_], [v], 0, [e], rfl, ?l2, ?l3, ?l4, ?l5, rfl⟩ ?l1 ?turn
  case l5 => (simp [sizeL]; exact hz)
  case l1 => k_extra "one9"
  case l2 => exact List.Mem.head _
  case l3 => exact .cons (DatIn.mono (by k_extra "sub9") hv) .nil
  case l4 => (simp [hgtL])
  case turn =>
    rintro i ⟨l', c', t'⟩ nx u' h' tk' ⟨tl', vs', nl', es', rfl, hl', hd', hc', hs', hi'⟩ F' N'
    dsimp only at hl' hd' hc' F' N'
    clear lF' lN'
    k_extra "fold9"
    k_with "~compareOp NotEq ref ref" => ((with_reducible show wpAny _ _ (compareOp _ _ _) _ _ _); refine Stop.out ?_)
    k_steps
    refine Stop.on ?_
    refine' ne_nil (S := tl' ++ news) (n := 2 * hgtL es') (i := nl') (k := 0) (by assumption) (by k_extra "mem9") hd' (by k_extra "sub9") ?ok (by k_extra "mem9") (by k_units) ?_
    case ok => exact okL es'
    cases es' with
    | nil =>
      rw [show (!(List.map Ex.dat []).isEmpty) = false from rfl]
      k_steps
      obtain rfl : c' = (e.hgt : Int) := by simpa [hgtL] using hc'
      exact hret _ _ _ _ (by assumption) (by assumption) ⟨_ :: tl', _, rfl, rfl⟩
    | cons e0 es0 =>
      rw [show (!(List.map Ex.dat (e0 :: es0)).isEmpty) = true from rfl]
      k_with "for!" => skip
      k_with "iter!" => ((with_reducible show wpAny _ _ (pyIter _) (fun it s₂ => LoopAtV _ _ _ _ _ _ _ _ _ it s₂) _ _); refine Stop.out ?_)
      k_steps
      refine Stop.on ?_
      rename Fr _ _ _ _ => lF'
      rename News _ _ _ _ => lN'
      with_unfolding_all refine' loop_list (vs := vs') (nn := nl') (σ := Addr × List Value × Nat) (fun c => [(Str.ofString "below", .ref c.1)]) [Str.ofString "part"] (fun i c nx => ∃ tl, nx = (c.1, listOf (List.toArray c.2.1) c.2.2) :: (tl ++ (tl' ++ news)) ∧ (∀ p ∈ tl ++ (tl' ++ news), p.1 ≠ c.1) ∧ DatAll (tl ++ (tl' ++ news)) c.2.1 ((((e0 :: es0).take i).flatMap Ex.kids).map Ex.dat)) (_, [], 0) ?hh ?hl lF' lN' ?l2 ?l1 ?turn ?done
      case hh => rfl
      case hl => exact List.mem_cons_of_mem _ (List.mem_cons_of_mem _ hl')
      case l1 => k_extra "one9"
      case l2 => exact ⟨[_], rfl, (by dsimp only [List.cons_append, List.nil_append]; k_all), .nil⟩
      case turn => 
        rintro i ⟨b', bvs', nb'⟩ nx v' u' h' tk' own' hv' hoff' hl2' ⟨tl2', rfl, hb', hd2'⟩ F' N'
        dsimp only at hb' hd2' F' N' hl2'
        rw [List.cons_append] at N'
        clear lF' lN'
        obtain ⟨ei, hei, hdi⟩ := datAll_get hd' hv'
        replace hdi := hdi.mono (news' := tl2' ++ (tl' ++ news)) (by k_extra "sub9")
        have hdt := take_kids hei
        have hob' : ∀ p ∈ own', p.1 ≠ b' := fun p hp => hoff' p hp _ List.mem_cons_self
        have hbz' : bvs'.length ≤ 10000 := by rw [← datAll_len hd2']; exact Nat.le_trans (take_len _ _) hs'
        cases ei with
        | nm z =>
          obtain ⟨ad, nn, t1, t2, rfl, hm⟩ := Ex.nm_inv hdi
          try k_extra "fold9"
          k_steps
          refine LJ.finS ((b', listOf (List.toArray bvs') nb') :: (tl2' ++ (tl' ++ news))) (b', bvs', nb') (by assumption) (by assumption) (by k_extra "sub9") (by k_extra "sub9") ?off1 ?mem1 ⟨tl2', rfl, hb', ?dat1⟩ (by k_extra "one9") ?same1
          case off1 => exact hoff'
          case mem1 => k_extra "mem9"
          case dat1 => rw [hdt, Ex.kids, List.append_nil]; exact hd2'
          case same1 => k_extra "same9"
        | rf k a =>
          obtain ⟨ad, nn, t1, t2, al, nl, va, rfl, hm, hl, ha⟩ := Ex.rf_inv hdi
          try k_extra "fold9"
          k_steps
          refine LJ.finS ((b', listOf (List.toArray (bvs' ++ [va])) (nb' + 1)) :: (tl2' ++ (tl' ++ news))) (b', bvs' ++ [va], (nb' + 1)) (by assumption) (by assumption) (by k_extra "sub9") (by k_extra "sub9") ?off2 ?mem2 ⟨tl2', rfl, hb', ?dat2⟩ (by k_extra "one9") ?same2
          case off2 => exact hoff'
          case mem2 => k_extra "mem9"
          case dat2 => rw [hdt]; exact datAll_app hd2' (.cons ha .nil)
          case same2 => k_extra "same9"
        | ng e =>
          obtain ⟨ad, nn, t1, t2, ve, rfl, hm, he⟩ := Ex.ng_inv hdi
          obtain ⟨ad1, n1, vs1, rfl, hm1⟩ := Ex.shape he
          try k_extra "fold9"
          k_steps
          refine LJ.finS ((b', listOf (List.toArray (bvs' ++ [.ref ad1])) (nb' + 1)) :: (tl2' ++ (tl' ++ news))) (b', bvs' ++ [.ref ad1], (nb' + 1)) (by assumption) (by assumption) (by k_extra "sub9") (by k_extra "sub9") ?off3 ?mem3 ⟨tl2', rfl, hb', ?dat3⟩ (by k_extra "one9") ?same3
          case off3 => exact hoff'
          case mem3 => k_extra "mem9"
          case dat3 => rw [hdt]; exact datAll_app hd2' (.cons he .nil)
          case same3 => k_extra "same9"
        | bi p l r =>
          obtain ⟨ad, nn, t1, t2, vl, vr, rfl, hm, hl, hr⟩ := Ex.bi_inv hdi
          obtain ⟨ad1, n1, vs1, rfl, hm1⟩ := Ex.shape hl
          obtain ⟨ad2, n2, vs2, rfl, hm2⟩ := Ex.shape hr
          try k_extra "fold9"
          k_steps
          refine LJ.finS ((b', listOf (List.toArray (bvs' ++ [.ref ad1] ++ [.ref ad2])) (nb' + 1 + 1)) :: (tl2' ++ (tl' ++ news))) (b', bvs' ++ [.ref ad1] ++ [.ref ad2], (nb' + 1 + 1)) (by assumption) (by assumption) (by k_extra "sub9") (by k_extra "sub9") ?off4 ?mem4 ⟨tl2', rfl, hb', ?dat4⟩ (by k_extra "one9") ?same4
          case off4 => exact hoff'
          case mem4 => k_extra "mem9"
          case dat4 => rw [hdt]; rw [List.append_assoc]; exact datAll_app hd2' (.cons hl (.cons hr .nil))
          case same4 => k_extra "same9"
        | one =>
          obtain ⟨ad, nn, t1, t2, t3, rfl, hm⟩ := Ex.one_inv hdi
          try k_extra "fold9"
          k_steps
          refine LJ.finS ((b', listOf (List.toArray bvs') nb') :: (tl2' ++ (tl' ++ news))) (b', bvs', nb') (by assumption) (by assumption) (by k_extra "sub9") (by k_extra "sub9") ?off5 ?mem5 ⟨tl2', rfl, hb', ?dat5⟩ (by k_extra "one9") ?same5
          case off5 => exact hoff'
          case mem5 => k_extra "mem9"
          case dat5 => rw [hdt, Ex.kids, List.append_nil]; exact hd2'
          case same5 => k_extra "same9"
      case done =>
        rintro ⟨b', bvs', nb'⟩ nx' u' h' tk' ⟨tl2', rfl, hb', hd2'⟩ F' N'
        dsimp only at hb' hd2' F' N'
        clear lF' lN'
        k_steps
        simp only [List.take_of_length_le (Nat.le_of_eq (datAll_len hd'))] at hd2'
        refine' LW.fin (hgtL ((e0 :: es0).flatMap Ex.kids)) (b', _, _) (by assumption) (by assumption) ?w0 ⟨(b', listOf bvs'.toArray nb') :: (tl2' ++ tl'), bvs', nb', (e0 :: es0).flatMap Ex.kids, ?w4, ?w1, ?w2, ?w3, ?w5, rfl⟩ ?k ?r
        case w4 => simp only [List.cons_append, List.append_assoc]
        case w0 => rw [hi', hgtL_kids _ (List.cons_ne_nil _ _)]; exact Nat.lt_succ_self _
        case k => k_extra "one9"
        case w5 => (have q := sizeL_kids (e0 :: es0); omega)
        case w1 => exact List.Mem.head _
        case w2 => exact hd2'.mono (by k_extra "sub9")
        case w3 => have q := hgtL_kids (e0 :: es0) (List.cons_ne_nil _ _); rw [q] at hc'; dsimp only; omega
        case r => k_extra "sameW9"
theorem reg_words_Grow : True := by
  k_with_none
  w_top off
  k_with "for!" => fail "no word"
  k_with "memr9" => first
    | with_reducible assumption
    | with_reducible exact List.mem_cons_self
    | (with_reducible refine List.mem_cons_of_mem _ ?_; k_extra "memr9")
    | (with_reducible refine List.mem_append_right _ ?_; k_extra "memr9")
    | (with_reducible refine List.mem_append_left _ ?_; k_extra "memr9")
  k_with "mem9" => first
    | k_extra "memr9"
    | assumption
    | k_mem
    | (simp only [List.mem_cons, List.mem_append] at *; simp only [*, true_or, or_true])
    | grind
  k_with "sub8" => first
    | exact List.forall_mem_nil _
    | (refine' List.forall_mem_cons.mpr ⟨?m8, ?_⟩; (case m8 => k_mem); k_extra "sub8")
    | (refine' List.forall_mem_append.mpr ⟨?m8, ?_⟩; (case m8 => k_extra "sub8"); k_extra "sub8")
    | (intro p8 h8; k_mem)
  k_with "sub9" => first
    | k_extra "sub8"
    | (intro p9 h9; first
      | exact h9
      | (simp only [List.mem_cons, List.mem_append] at h9 ⊢; grind))
  k_with "dat9" => repeat' (first
    | exact DatIn.str _ _
    | exact DatIn.int _ _
    | exact DatAll.nil
    | assumption
    | (refine' DatAll.cons ?_ ?_)
    | (refine' DatIn.tuple ?m9 ?_; (case m9 => k_extra "mem9"))
    | (refine' DatIn.list ?m9 ?_; (case m9 => k_extra "mem9"))
    | (refine' DatIn.mono ?s9 ?h9; (case h9 => assumption); (case s9 => k_extra "sub9")))
  k_with "and9" => first
    | ((fail_if_success (fail_if_success (rename _ ∧ _ => hc9))); refine foldP (fun G9 hG9 => ?_); (repeat' (rename _ ∧ _ => hc9; refine and_go hc9 (fun hc8 hc7 => ?_); clear hc9)); refine hG9 ?_; clear hG9 G9)
    | skip
  k_with "fold9" => ((fail_if_success (fail_if_success k_fold)); refine (let q9 := _; let e9 := _; (?_ : wpAny _ _ _ q9 e9 _)))
  k_with "ne9" => first
    | assumption
    | (refine' ne_all ?h9 ?s9; (case h9 => assumption); (case s9 => k_extra "sub9"))
    | (refine' ne_allT ?h9 ?s9; (case h9 => assumption); (case s9 => k_extra "sub9"))
  k_with "off9" => (
    refine' off_of ?_
    repeat' (first
    | exact offL_nil
    | (refine' offL_sub ?h9 ?s9; (case h9 => assumption); (case s9 => k_extra "sub9"))
    | (refine' offL_cons ?o9 ?_; (case o9 => k_extra "ne9"))
    | (refine' offL_app ?_ ?_)))
  k_with "split9" => first | exact Split.base | (refine Split.cons ?_; k_extra "split9") | (refine Split.app ?_; k_extra "split9")
  k_with "same9" => (intro z9 h1 h2 h3; (simp only [List.mem_cons, List.not_mem_nil, or_false, forall_eq_or_imp, forall_eq] at h2); (simp only [List.contains_cons, List.contains_nil, Bool.or_false, Bool.or_eq_false_iff, beq_eq_false_iff_ne, ne_eq] at h3); (simp [h1, h2, h3, kstB]; done))
  k_with "sameW9" => (intro z9 h2 h3; (simp only [List.mem_cons, List.not_mem_nil, or_false, forall_eq_or_imp, forall_eq] at h2); (simp only [List.contains_cons, List.contains_nil, Bool.or_false, Bool.or_eq_false_iff, beq_eq_false_iff_ne, ne_eq] at h3); (simp [h2, h3, kstB]; done))
  k_with "one9" => (first | exact List.forall_mem_nil _ | (refine' List.forall_mem_cons.mpr ⟨?a9, ?_⟩; (case a9 => with_unfolding_all rfl); k_extra "one9"))
  k_with "offE9" => ((try dsimp only); (repeat (refine' List.forall_mem_cons.mpr ⟨?o9, ?_⟩; (case o9 => ((try dsimp only); k_ne)))); (repeat' (rename _ ∧ _ => hc9; rcases hc9 with ⟨hc8, hc7⟩)); first | exact List.forall_mem_nil _ | assumption | exact lt_ne (by assumption) | exact gt_ne (by assumption))
  k_with "rot9" => repeat' (first | exact Rot.here | refine' Rot.next ?_)
  k_with "nes8" => repeat' (first | assumption | exact List.forall_mem_nil _ | (refine' List.forall_mem_cons.mpr ⟨?m8, ?_⟩; (case m8 => dsimp only; first | exact Nat.ne_of_gt (by assumption) | exact Nat.ne_of_lt (by assumption) | assumption | exact Ne.symm (by assumption) | k_ne)) | exact lt_ne (by assumption) | refine' List.forall_mem_append.mpr ⟨?_, ?_⟩)
  k_with "offs8" => repeat' (first | assumption | exact offL_nil | exact offL_swap (by assumption) | (refine' offL_cons ?m8 ?_; (case m8 => dsimp only; first | exact lt_ne (by assumption) | (refine' lt_ne2 ?A8 ?B8; (case B8 => assumption); (case A8 => assumption)) | k_extra "ne9")) | refine' offL_app ?_ ?_)
  k_with "sel9" => repeat' (first | exact Sel.base | (refine' Sel.old ?m9 ?_; (case m9 => assumption)) | (refine' Sel.cut ?m9 ?_; (case m9 => repeat (first | exact List.mem_cons_self | refine List.mem_cons_of_mem _ ?_))) | refine' Sel.keep ?_ | refine' Sel.app ?_)
  k_with "mems9" => repeat' (first | exact List.forall_mem_nil _ | (refine' List.forall_mem_cons.mpr ⟨?m9, ?_⟩; (case m9 => k_extra "mem9")))
  k_with "isd9" => repeat' (first | (refine' dat_cons ?m9 ?_; (case m9 => first | (intro _; k_mem) | (intro q9; exact absurd q9 (dict_no (by assumption))) | (intro q9; exact absurd q9 (by simp [isDat, instObj, dictOf, itR])))) | (refine' dat_app ?m9 ?_; (case m9 => k_extra "sub9")) | (refine' dat_end ?m9; (case m9 => k_extra "sub9")))
  k_with "~execs cons" => k_extra "fold9"
  k_with "~call builtin:isinstance" => (k_here; (with_reducible show wpAny _ _ (call _ [Value.ref _, Value.type _]) _ _ _); kit_cont; k_dflt kit_objs)
  k_with "~eval Call" => k_extra "fold9"
  k_with "~eval Compare" => k_extra "fold9"
  k_with "~eval BinOp" => k_extra "fold9"
  k_with "~eval Tuple" => k_extra "fold9"
  k_with "~eval List" => k_extra "fold9"
  k_with "~eval Subscript" => k_extra "fold9"
  k_with "~eval Attribute" => k_extra "fold9"
  k_with "~eval IfExp" => k_extra "fold9"
  k_with "lt9" => first
    | with_reducible assumption
    | exact cj0 (by with_reducible assumption)
    | exact cj1 (by with_reducible assumption)
    | exact cj2 (by with_reducible assumption)
    | exact cj3 (by with_reducible assumption)
    | exact cj4 (by with_reducible assumption)
    | exact cj5 (by with_reducible assumption)
    | exact cj6 (by with_reducible assumption)
    | exact cj7 (by with_reducible assumption)
    | exact cz1 (by with_reducible assumption)
    | exact cz2 (by with_reducible assumption)
    | exact cz3 (by with_reducible assumption)
    | exact cz4 (by with_reducible assumption)
    | exact cz5 (by with_reducible assumption)
    | exact cz6 (by with_reducible assumption)
    | exact cz7 (by with_reducible assumption)
    | fail "lt9"
  k_with "om9" => first
    | with_reducible assumption
    | exact Nat.le_of_ble_eq_true rfl
    | exact Ne.symm (by with_reducible assumption)
    | ((with_reducible show (_ : Nat) ≠ _); first | exact Nat.ne_of_lt (by k_extra "lt9") | exact Nat.ne_of_gt (by k_extra "lt9"))
    | ((with_reducible show (_ : Nat) < _); first
      | exact rm1 (by with_reducible assumption) (by exact rfl)
      | exact rm0 (by with_reducible assumption)
      | exact rn1 (by with_reducible assumption) (by exact rfl)
      | exact rn3 (by with_reducible assumption) (by exact rfl)
      | exact rf2 (by with_reducible assumption) (by with_reducible assumption) (by exact rfl)
      | exact rm3 (by with_reducible assumption) (by exact rfl)
      | exact uf2 (by with_reducible assumption) (by with_reducible assumption) (by exact rfl)
      | exact um3 (by with_reducible assumption) (by exact rfl)
      | exact rf1 (by with_reducible assumption) (by with_reducible assumption) (by exact rfl)
      | exact rf3 (by with_reducible assumption) (by with_reducible assumption) (by exact rfl)
      | exact uf3 (by with_reducible assumption) (by with_reducible assumption) (by exact rfl)
      | k_extra "lt9")
    | fail "om9"
  k_with "~@k_all" => first | assumption | exact lt_ne (by assumption) | exact gt_ne (by assumption) | (refine' List.forall_mem_append.mpr ⟨?q9a, ?q9b⟩; (case q9a => k_all); (case q9b => k_all))
  k_with "~call builtin:len" => (k_here; (with_reducible show wpAny _ _ (call (Value.builtin "len") [Value.ref _]) _ _ _); (refine KM.len_K (by k_asm) (by k_dflt k_mem) rfl (by simp; omega) ?_))
  k_with "~@k_room" => ((try simp only [depth_mark, depth_under_make, depth_under_kw, depth_in1, depth_deeper, depth_caller]); (try dsimp only [ktrTop]); omega)
  k_with "~@k_units" => ((have hcL9 := cLine_is); (try simp only [units_in1, units_deeper, Around.mark_units, units_caller]); (try dsimp only [ktrTop]); omega)
  k_with "~exec While Compare cons nil" => k_extra "while!"
  k_with "~pyIter ref" => k_extra "iter!"
  k_with "~call ref" => k_extra "call!"
  k_with "~exec For Name Call cons nil" => (k_extra "for!"; k_here; (rename Fr _ _ _ _ => z9lF'); (with_unfolding_all refine' For_invVF z9lF' ?q9k1 ?q9k2 ?_; (case q9k1 => exact rfl); (case q9k2 => exact rfl); k_whole))
  k_with "~exec For Name Name cons nil" => (k_extra "for!"; k_here; (rename Fr _ _ _ _ => z9lF'); (with_unfolding_all refine' For_invVF z9lF' ?q9k1 ?q9k2 ?_; (case q9k1 => exact rfl); (case q9k2 => exact rfl); k_whole))
  k_with "~@k_mem" => first | assumption | exact List.mem_cons_self | (refine List.mem_cons_of_mem _ ?_; k_mem) | (refine List.mem_append_left _ ?_; k_mem) | (refine List.mem_append_right _ ?_; k_mem)
  k_with "~subscriptTail Name Slice ref ref" => (k_here; (with_reducible show wpAny _ _ (subscriptTail _ (PySem.Expr.Slice _ none none _) (Value.ref _) (Value.ref _)) _ _ _); k_dflt (refine' tup_from ?q9F ?q9N ?q9b ?q9o ?q9l ?q9e ?_ ?q9s ?q9t ?q9z; (case q9F => k_asm); (case q9N => k_asm); (case q9b => k_mem); (case q9o => decide); (case q9l => exact Nat.le_of_ble_eq_true rfl); (case q9e => kl_lit); (case q9s => with_unfolding_all rfl); (case q9t => (intro _; with_unfolding_all rfl)); (case q9z => (simp only [List.length_cons, List.length_nil, sizeLine_eq]; omega))); intro z9D' z9h' z9F' z9N' z9l1; (try k_lt z9l1); (try k_sweep))
  k_with "~exec For Name Subscript cons nil" => (k_here; (rename Fr _ _ _ _ => z9lF'); (with_unfolding_all refine' For_turns z9lF' ?_; k_whole))
  k_with "~exec For Name Name cons nil" => (k_extra "turns!"; k_here; (rename Fr _ _ _ _ => z9lF'); (with_unfolding_all refine' For_turns z9lF' ?_; k_whole))
  k_with "~pyIter ref" => (k_here; (with_reducible show wpAny _ _ (pyIter (Value.ref _)) (fun it s₂ => TurnsAt _ _ _ _ _ _ _ _ _ it s₂) _ _); (rename Fr _ _ _ _ => z9lF'); (rename News _ _ _ _ => z9lN'); k_dflt (refine' iter_tupTurns ?q9h z9lF' z9lN' ?q9m ?q9c ?q9d ?_; (case q9h => with_unfolding_all rfl); (case q9m => k_mem); (case q9c => exact rfl); (case q9d => exact rfl)); clear z9lF'; intro z9i' z9l1; (try k_lt z9l1))
  k_with "~pyIter ref" => (k_here; (with_reducible show wpAny _ _ (pyIter (Value.ref _)) (fun it s₂ => TurnsAt _ _ _ _ _ _ _ _ _ it s₂) _ _); (rename Fr _ _ _ _ => z9lF'); (rename News _ _ _ _ => z9lN'); k_dflt (refine' iter_listTurns ?q9h z9lF' z9lN' ?q9m ?q9c ?q9d ?_; (case q9h => with_unfolding_all rfl); (case q9m => k_mem); (case q9c => exact rfl); (case q9d => exact rfl)); clear z9lF'; intro z9i' z9l1; (try k_lt z9l1))
  k_with "~UnrEndW" => ((rename Fr _ _ _ _ => z9lF'); (rename News _ _ _ _ => z9lN'); (refine' unrEnd z9lF' z9lN' ?q9c9 ?q9o9 ⟨?q9k9, ?_⟩; (case q9c9 => repeat' (first | exact Cut.base | refine' Cut.cons ?_)); (case q9o9 => k_extra "offE9"); (case q9k9 => k_subL)); clear z9lF' z9lN')
  k_with "~@size_fits" => (simp only [List.size_toArray, List.length_append, List.length_cons, List.length_nil, sizeLine_eq]; omega)
  k_with "~call builtin:list.extend" => (k_here; (with_reducible show wpAny _ _ (call (Value.builtin _) [Value.ref _, Value.ref _]) _ _ _); k_dflt (refine' ext_list ?q9F ?q9N ?q9b ?q9ne ?q9U ?q9z ?_; (case q9F => k_asm); (case q9N => k_asm); (case q9b => k_mem); (case q9U => k_upd); (case q9ne => exact List.cons_ne_nil _ _); (case q9z => (simp only [List.length_append, List.length_cons, List.length_nil]; omega))); intro z9h' z9F' z9N'; (try k_sweep))
  k_with "~call builtin:list.pop" => (k_here; (with_reducible show wpAny _ _ (call (Value.builtin _) [Value.ref _]) _ _ _); k_dflt (refine' pop_list ?q9F ?q9N ?q9U ?q9z ?_; (case q9F => k_asm); (case q9N => k_asm); (case q9U => k_upd); (case q9z => omega)); intro z9h' z9F' z9N'; (try k_sweep))
  trivial
noncomputable def Ty.nodes : Ty → Nat
  | .var => 1
  | .one => 1
  | .ng t => t.nodes + 1
  | .bi _ l r => l.nodes + r.nodes + 1
noncomputable def Ty.plus : Ty → Prop
  | .var => True
  | .one => True
  | .ng t => t.plus
  | .bi p l r => p = true ∧ l.plus ∧ r.plus
theorem Ty.lev_pos : ∀ t : Ty, 1 ≤ t.lev := by intro t; cases t <;> simp [Ty.lev]
theorem Ty.nodes_pos : ∀ t : Ty, 1 ≤ t.nodes := by intro t; cases t <;> simp [Ty.nodes]
noncomputable def pairD (p : Ty × Nat) : Dat := .tuple [p.1.dat, .int (p.2 : Int)]
noncomputable def nodesL : List (Ty × Nat) → Nat
  | [] => 0
  | e :: r => e.1.nodes + nodesL r
theorem nodesL_app : ∀ a b, nodesL (a ++ b) = nodesL a + nodesL b
  | [], b => by simp [nodesL]
  | e :: r, b => by rw [List.cons_append, nodesL, nodesL, nodesL_app r b]; omega
theorem len_nodesL : ∀ a, a.length ≤ nodesL a
  | [] => Nat.le_refl _
  | e :: r => by have := len_nodesL r; have := e.1.nodes_pos; rw [nodesL, List.length_cons]; omega
noncomputable def topL : List (Ty × Nat) → Nat
  | [] => 0
  | e :: r => max (e.1.lev + 2) (topL r)
theorem okP : ∀ es : List (Ty × Nat), ∀ d ∈ es.map pairD, kqdOk (topL es) d = true := by
  intro es
  induction es with
  | nil => exact fun d hd => nomatch hd
  | cons e r ih =>
    intro d hd
    rcases List.mem_cons.mp hd with rfl | hd
    · refine kqdOk_mono (n := e.1.lev + 2) (by rw [topL]; omega) (tup_ok (List.forall_mem_cons.mpr ⟨e.1.ok, List.forall_mem_cons.mpr ⟨int_ok, List.forall_mem_nil _⟩⟩))
    · exact kqdOk_mono (by rw [topL]; omega) (ih d hd)
theorem snoc_cases {α : Type} (l : List α) : l = [] ∨ ∃ a b, l = a ++ [b] := by
  rcases List.eq_nil_or_concat l with h | ⟨a, b, h⟩
  · exact .inl h
  · exact .inr ⟨a, b, by simpa using h⟩
theorem dat_snoc {S : List (Addr × Obj)} {vs : List Value} {ds : List Dat} {d : Dat} (h : DatAll S vs (ds ++ [d])) : ∃ us u, vs = us ++ [u] ∧ DatAll S us ds ∧ DatIn S u d := by
  induction ds generalizing vs with
  | nil =>
    obtain ⟨u, r, rfl, h1, h2⟩ := dcons h
    obtain rfl := dnil h2
    exact ⟨[], u, rfl, .nil, h1⟩
  | cons e ds ih =>
    obtain ⟨u, r, rfl, h1, h2⟩ := dcons h
    obtain ⟨us, w, rfl, p, q⟩ := ih h2
    exact ⟨u :: us, w, rfl, .cons h1 p, q⟩
theorem pair_inv {S : List (Addr × Obj)} {v : Value} {t : Ty} {l : Nat} (h : DatIn S v (pairD (t, l))) : ∃ ad n tv t1, v = .ref ad ∧ (ad, tupO [tv, .int (l : Int) t1] n) ∈ S ∧ DatIn S tv t.dat := by
  obtain ⟨ad, n, v1, v2, rfl, hm, h1, h2⟩ := dtup2 h
  obtain ⟨t2, rfl⟩ := dint h2
  exact ⟨_, _, _, _, rfl, hm, h1⟩
theorem Ty.shape {S : List (Addr × Obj)} {v : Value} {e : Ty} (h : DatIn S v e.dat) : ∃ ad n vs, v = .ref ad ∧ (ad, tupO vs n) ∈ S := by
  have q : ∃ ds, e.dat = .tuple ds := by cases e <;> exact ⟨_, rfl⟩
  obtain ⟨ds, q⟩ := q
  rw [q] at h
  obtain ⟨ad, n, vs, e, m, _⟩ := dtupn h
  exact ⟨_, _, _, e, m⟩
theorem growth (w : World) (v : Value) (t : Ty) (news : List (Addr × Obj)) (hv : DatIn news v t.dat) (hl : t.lev ≤ 100) (hn : t.nodes ≤ 10000) (hp : t.plus) :
    Tel w 194 [v] 5 news (fun r news' => ∃ tl, news' = tl ++ news ∧ r = .none) False := by
  have lp : Challenge.rw_pq0356_01.foot = Challenge.rw_pq0356_01.foot ∧ hd.heap_39 = hd.heap_39 := by k_fill; exact ⟨rfl, rfl⟩
  clear lp
  intro mean mg mb dp un gd cn cs a ccd cl outer A₀ base h₀ L m s Q E B F X N T hk hdp hun hret _
  k_with "while!" => refine Stop.out ?_
  k_with "turns!" => skip
  refine wpAny_call ?_
  k_dflt ktr_enter
  k_steps
  refine Stop.on ?_
  rename Fr _ _ _ _ => lF'
  rename News _ _ _ _ => lN'
  with_unfolding_all refine' loop_while (σ := Addr × Int × Tok) (fun c => [(Str.ofString "todo", .ref c.1), (Str.ofString "count", .int c.2.1 c.2.2)]) [Str.ofString "node", Str.ofString "level", Str.ofString "parts", Str.ofString "part", Str.ofString "one"] (fun i c nx => ∃ tl vs nl es, nx = (c.1, listOf (List.toArray vs) nl) :: (tl ++ news) ∧ (∀ p ∈ tl ++ news, p.1 ≠ c.1) ∧ DatAll (tl ++ news) vs (es.map pairD) ∧ c.2.1 + (nodesL es : Int) ≤ 10000 ∧ (∀ e ∈ es, e.1.lev + e.2 ≤ 101 ∧ e.1.plus) ∧ 0 ≤ c.2.1 ∧ i = nodesL es) (nodesL [(t, 1)]) (_, _, _) lF' lN' ⟨[_], [_], 0, [(t, 1)], rfl, ?l2, ?l3, ?l4, ?l5, ?l6, rfl⟩ ?l1 ?turn
  case l1 => k_extra "one9"
  case l2 => (dsimp only [List.cons_append, List.nil_append]; k_all)
  case l3 => exact .cons (.tuple (.head _) (.cons (DatIn.mono (by k_extra "sub9") hv) (.cons (.int _ _) .nil))) .nil
  case l4 => (simp [nodesL]; omega)
  case l5 => (intro e he; obtain rfl := List.mem_singleton.mp he; exact ⟨(by dsimp only; omega), hp⟩)
  case l6 => exact Int.le_refl 0
  case turn =>
    rintro i ⟨T', c', t'⟩ nx u' h' tk' ⟨tl', vs', nl', es', rfl, hb', hd', hc', hlv', h0', hi'⟩ F' N'
    dsimp only at hb' hd' hc' h0' F' N'
    clear lF' lN'
    k_extra "fold9"
    k_with "~compareOp NotEq ref ref" => ((with_reducible show wpAny _ _ (compareOp _ _ _) _ _ _); refine Stop.out ?_)
    k_steps
    refine Stop.on ?_
    refine' ne_nil (S := tl' ++ news) (n := topL es') (i := nl') (k := 0) (by assumption) (by k_extra "mem9") hd' (by k_extra "sub9") (okP es') (by k_extra "mem9") (by k_units) ?_
    rcases snoc_cases es' with rfl | ⟨es0, ⟨t0, l0⟩, rfl⟩
    · rw [show (!(List.map pairD []).isEmpty) = false from rfl]
      k_steps
      exact hret _ _ _ _ (by assumption) (by assumption) ⟨_ :: _ :: tl', rfl, rfl⟩
    · rw [List.map_append, show (!(List.map pairD es0 ++ List.map pairD [(t0, l0)]).isEmpty) = true by simp]
      rw [List.map_append] at hd'
      obtain ⟨vs0, v0, rfl, hd0, hd1⟩ := dat_snoc hd'
      obtain ⟨ap, np, tv, t1, rfl, hm0, hdt⟩ := pair_inv hd1
      obtain ⟨hL0, hP0⟩ := hlv' (t0, l0) (by simp)
      have hz0 : vs0.length ≤ 10000 := by
        have q := hd0.length
        have q2 := len_nodesL es0
        rw [nodesL_app] at hc'
        simp at q; omega
      dsimp only at hL0 hP0
      have hp0 := t0.lev_pos
      have hp1 := t0.nodes_pos
      rw [nodesL_app, nodesL, nodesL] at hc' hi'
      dsimp only at hc' hi'
      cases t0 with
      | var =>
        obtain ⟨ad, nn, t2, t3, t4, rfl, hm⟩ := Ty.var_inv hdt
        k_steps
        refine' LW.finR news (nodesL es0) (T', c' + 1, _) (by assumption) (by assumption) ?a1 ?b1 ⟨_, vs0, _, es0, ?c1, ?d1, ?e1, ?f1, ?g1, ?h1, rfl⟩ ?i1 ?j1
        case a1 => k_extra "rot9"
        case i1 => k_extra "one9"
        case b1 => omega
        case c1 => rfl
        case d1 => k_extra "offE9"
        case e1 => exact hd0.mono (by k_extra "sub9")
        case f1 => (dsimp only; omega)
        case g1 => exact fun e he => hlv' e (List.mem_append_left _ he)
        case h1 => (dsimp only; omega)
        case j1 => k_extra "sameW9"
      | one =>
        obtain ⟨ad, nn, t1, t2, ad2, n2, t3, t4, rfl, hm, hm2⟩ := Ty.one_inv hdt
        k_steps
        refine' LW.finR news (nodesL es0) (T', c' + 1, _) (by assumption) (by assumption) ?a2 ?b2 ⟨_, vs0, _, es0, ?c2, ?d2, ?e2, ?f2, ?g2, ?h2, rfl⟩ ?i2 ?j2
        case a2 => k_extra "rot9"
        case i2 => k_extra "one9"
        case b2 => omega
        case c2 => rfl
        case d2 => k_extra "offE9"
        case e2 => exact hd0.mono (by k_extra "sub9")
        case f2 => (dsimp only; omega)
        case g2 => exact fun e he => hlv' e (List.mem_append_left _ he)
        case h2 => (dsimp only; omega)
        case j2 => k_extra "sameW9"
      | ng t =>
        obtain ⟨ad, nn, t2, t3, ve, rfl, hm, he⟩ := Ty.ng_inv hdt
        obtain ⟨ad1, n1, vs1, rfl, hm1⟩ := Ty.shape he
        rw [Ty.nodes] at hc' hi'
        rw [Ty.lev] at hL0
        k_steps
        refine' LW.finR news (nodesL (es0 ++ [(t, l0 + 1)])) (T', c' + 1, _) (by assumption) (by assumption) ?a3 ?b3 ⟨_, vs0 ++ [_], _, es0 ++ [(t, l0 + 1)], ?c3, ?d3, ?e3, ?f3, ?g3, ?h3, rfl⟩ ?i3 ?j3
        case a3 => k_extra "rot9"
        case i3 => k_extra "one9"
        case b3 => (rw [nodesL_app, nodesL, nodesL]; dsimp only; omega)
        case c3 => (simp only [List.push_toArray]; rfl)
        case d3 => k_extra "offE9"
        case e3 =>
          rw [List.map_append]
          exact (hd0.mono (by k_extra "sub9")).append (.one (.tuple (by k_extra "mem9") (.cons (he.mono (by k_extra "sub9")) (.cons (.int _ _) .nil))))
        case f3 => (rw [nodesL_app, nodesL, nodesL]; dsimp only; omega)
        case g3 =>
          intro e he
          rcases List.mem_append.mp he with he | he
          · exact hlv' e (List.mem_append_left _ he)
          · obtain rfl := List.mem_singleton.mp he
            exact ⟨(by dsimp only; omega), hP0⟩
        case h3 => (dsimp only; omega)
        case j3 => k_extra "sameW9"
      | bi p l r =>
        obtain ⟨ad, nn, t2, t3, vl, vr, rfl, hm, hl, hr⟩ := Ty.bi_inv hdt
        obtain ⟨ad1, n1, vs1, rfl, hm1⟩ := Ty.shape hl
        obtain ⟨ad2, n2, vs2, rfl, hm2⟩ := Ty.shape hr
        rw [Ty.nodes] at hc' hi'
        rw [Ty.lev] at hL0
        have hL1 := Nat.le_max_left l.lev r.lev
        have hL2 := Nat.le_max_right l.lev r.lev
        obtain ⟨rfl, hP1, hP2⟩ := hP0
        k_steps
        (
          refine' LW.finR news (nodesL (es0 ++ [(l, l0 + 1), (r, l0 + 1)])) (T', c' + 1, _) (by assumption) (by assumption) ?a4 ?b4 ⟨_, vs0 ++ [_, _], _, es0 ++ [(l, l0 + 1), (r, l0 + 1)], ?c4, ?d4, ?e4, ?f4, ?g4, ?h4, rfl⟩ ?i4 ?j4
          case a4 => k_extra "rot9"
          case i4 => k_extra "one9"
          case b4 => (rw [nodesL_app, nodesL, nodesL, nodesL]; dsimp only; omega)
          case c4 => (simp only [List.push_toArray, List.append_assoc]; rfl)
          case d4 => k_extra "offE9"
          case e4 =>
            rw [List.map_append]
            exact (hd0.mono (by k_extra "sub9")).append (.cons (.tuple (by k_extra "mem9") (.cons (hl.mono (by k_extra "sub9")) (.cons (.int _ _) .nil))) (.one (.tuple (by k_extra "mem9") (.cons (hr.mono (by k_extra "sub9")) (.cons (.int _ _) .nil)))))
          case f4 => (rw [nodesL_app, nodesL, nodesL, nodesL]; dsimp only; omega)
          case g4 =>
            intro e he
            rcases List.mem_append.mp he with he | he
            · exact hlv' e (List.mem_append_left _ he)
            · rcases List.mem_cons.mp he with rfl | he
              · exact ⟨(by dsimp only; omega), hP1⟩
              · obtain rfl := List.mem_singleton.mp he
                exact ⟨(by dsimp only; omega), hP2⟩
          case h4 => (dsimp only; omega)
          case j4 => k_extra "sameW9")
theorem reg_words_Exc : True := by
  k_with_none
  w_top off
  k_with "~@k_all" => first | assumption | exact lt_ne (by assumption) | exact gt_ne (by assumption) | (refine' List.forall_mem_append.mpr ⟨?q9a, ?q9b⟩; (case q9a => k_all); (case q9b => k_all))
  k_with "~call builtin:len" => (k_here; (with_reducible show wpAny _ _ (call (Value.builtin "len") [Value.ref _]) _ _ _); (refine KM.len_K (by k_asm) (by k_dflt k_mem) rfl (by simp; omega) ?_))
  k_with "~@k_room" => ((try simp only [depth_mark, depth_under_make, depth_under_kw, depth_in1, depth_deeper, depth_caller]); (try dsimp only [ktrTop]); omega)
  k_with "~@k_units" => ((have hcL9 := cLine_is); (try simp only [units_in1, units_deeper, Around.mark_units, units_caller]); (try dsimp only [ktrTop]); omega)
  k_with "~exec While Compare cons nil" => k_extra "while!"
  k_with "~pyIter ref" => k_extra "iter!"
  k_with "~call ref" => k_extra "call!"
  k_with "~exec For Name Call cons nil" => (k_extra "for!"; k_here; (rename Fr _ _ _ _ => z9lF'); (with_unfolding_all refine' For_invVF z9lF' ?q9k1 ?q9k2 ?_; (case q9k1 => exact rfl); (case q9k2 => exact rfl); k_whole))
  k_with "~exec For Name Name cons nil" => (k_extra "for!"; k_here; (rename Fr _ _ _ _ => z9lF'); (with_unfolding_all refine' For_invVF z9lF' ?q9k1 ?q9k2 ?_; (case q9k1 => exact rfl); (case q9k2 => exact rfl); k_whole))
  k_with "~exec Raise some none" => (k_here; refine raise_fault (by rfl) ?_)
  k_with "~call ref" => ((with_reducible show wpAny _ _ (call (Value.ref 44) [_]) _ _ _); k_here; k_dflt (refine' call_fault ?q9k1 ?q9k2 ?q9k3 ?_; (case q9k1 => k_asm); (case q9k2 => k_asm); (case q9k3 => k_asm); intro z9e' z9t' z9h' z9F' z9N' z9l1 z9l2 z9l3 z9n' z9k'; (try k_lt z9l1); (try k_lt2 z9l2); (try k_lt z9l3); (try k_sweep); k_enter))
  trivial
noncomputable abbrev faultTail : List Value := [.ref 31, .type "Exception", .type "BaseException", .type "object"]
noncomputable abbrev faultCls : Obj := excClassObj (Str.ofString "CheckFault") (Str.ofString "CheckFault") 44 43 [.ref 31] faultTail true [] [] false none none (some (.ref 35)) none (some (Value.str (Str.ofString "CheckFault") 218)) (some (Value.str (Str.ofString "CheckFault") 226)) (some (.bool true)) "Exception.__new__"
theorem fault_look (P : Params) : (hd.heap_39 P).lookup 44 = some faultCls := by rfl
theorem fault_init (P : Params) : findIn (hd.heap_39 P) (.ref 44) "__init__" = some (some (.ref 28)) := by rfl
noncomputable abbrev bornF (t : Addr) : Obj := { cls := .ref 44, data := .fields #[.ref t, .none, .none, .none, .bool false, .none] }
section
variable {w : World} {M : Model} {A : Around} {R : Result → Shared → Prop} {E : Value → Shared → Prop} {h : Heap} {g : Array GenState} {d : Drawn} {t : Nat} {os : OsState}
theorem fault_new_check {v : Value} {Q : Unit → Shared → Prop} (hC : h.get? 44 = some faultCls) (hq : Q () ⟨h, g, d, t, os⟩) : wpAny M A (checkBuiltinCall "Exception.__new__" ⟨[.ref 44, v], []⟩) Q E ⟨h, g, d, t, os⟩ := by
  have F := PySem.F.excBase_Exception
  have hcont : (Value.ref 44 :: faultTail).contains (.type "Exception") = true := by decide
  have hstar := F.noStar
  simp only [checkBuiltinCall, F.newKind, F.newSplit, F.newRow]
  repeat (first | refine wpAny_loadPart_at hC ?_ | (refine wpAny_isSubtype_exc hC ?_; rw [hcont]) | refine wpAny_staticBase_exc hC ?_ | refine wpAny_madeBy_exc hC ?_ | simp only [bne_self_eq_false, Bool.false_eq_true, if_false] | wp_step)
  exact hq
theorem fault_new {v : Value} (hC : h.get? 44 = some faultCls) (hq : R (.ok (.ret (.ref (h.objs.size + 1)))) ⟨(h.push { cls := .type "tuple", data := .seq [v].toArray }).push (bornF h.objs.size), g, d, t, os⟩) :
    codeAny (model PR w) A (.builtin "Exception.__new__" ⟨[.ref 44, v], []⟩) R ⟨h, g, d, t, os⟩ := by
  have F := PySem.F.excBase_Exception
  have hends := F.ends
  have hcB : (Value.ref 44 :: faultTail).contains (.type "Exception") = true := by decide
  have hcA : (Value.ref 44 :: faultTail).contains (.type "AttributeError") = false := by decide
  have hcN : (Value.ref 44 :: faultTail).contains (.type "NameError") = false := by decide
  refine codeAny_builtinAt F.entry ?_
  unfold Builtin.«BaseException.__new__»
  refine PySem.wpAt_bind ?_
  show PySem.wpAt _ _ _ (stack >>= _) _ _ _
  refine PySem.wpAt_bind (PySem.wpAt_stack fun p below => PySem.wpAt_of_wpAny ?_)
  wp_walk
  refine PySem.wpAt_of_wpAny ?_
  rw [F.owner]
  repeat (first | with_reducible refine wpAny_madeHere_exc F.canon hC ?_ | with_reducible refine wpAny_loadPart_at hC ?_ | (with_reducible refine wpAny_isSubtype_exc hC ?_; first | rw [hcB] | rw [hcA] | rw [hcN]) | wp_step)
  show R _ _
  rw [Heap.size_push]
  exact hq
end
section
variable {w : World} {A : Around} {E : Value → Shared → Prop} {s : Shared} {h₀ : Heap} {L : Addr} {m : Str → Option Value} {news : List (Addr × Obj)}
theorem call_fault {v : Value} {Q : Value → Shared → Prop} (F : Fr h₀ L s.heap m) (X₀ : (hd.heap_39 w.params).In h₀) (N : News h₀ L s.heap news)
    (h : ∀ e t h', Fr h₀ L h' m → News h₀ L h' ((e, bornF t) :: (t, { cls := .type "tuple", data := .seq [v].toArray }) :: news) → (∀ p ∈ news, p.1 < t) → t < e → (∀ p ∈ news, p.1 < e) → s.heap.get? e = none → (∀ b o, s.heap.get? b = some o → h'.get? b = some o) →
      codeAny (model PR w) (A.under (.builtin "type.__call__" ⟨[.ref 44, v], []⟩)) (.call (.ref 28) ⟨[.ref e, v], []⟩) (InitBack e fun r s' => match r with | .ok (.ret v) => Q v s' | .ok _ => False | .error e => E e s') { s with heap := h' }) :
    wpAny (model PR w) A (call (.ref 44) [v]) Q E s := by
  have hC : s.heap.get? 44 = some faultCls := (X₀.keeps F.keep) _ _ (fault_look _)
  obtain ⟨hp, g, d, t, os⟩ := s
  have f1 := tc_lookup
  have f2 := tc_bind (.ref 44)
  have hT : (⟨hp, g, d, t, os⟩ : Shared).TypeIs (.ref 44) "type" := ⟨_, hC, rfl⟩
  refine wpAny_call (codeAny_of_tree ?_)
  show wpAny _ _ (callAny (.ref 44) _) _ _ _
  repeat (any_goals (first | assumption | with_reducible refine wpAny_loadPart_at hC ?_ | wp_step))
  refine ⟨rfl, ?_⟩
  refine codeAny_call_builtin_at (Code.quiet_builtin _ (by decide +kernel)) entry_typeCall (wpAny_check_type_call_sub hC ?_)
  repeat (first | with_reducible refine wpAny_loadPart_at hC ?_ | with_reducible refine wpAny_madeBy_exc hC ?_ | wp_step)
  refine codeAny_call_builtin_code (Code.quiet_builtin _ PySem.F.excBase_Exception.quiet) (fault_new_check hC ?_)
  refine fault_new hC ?_
  show wpAny _ _ _ _ _ _
  have k : ∀ b o, hp.get? b = some o → ((hp.push { cls := .type "tuple", data := .seq [v].toArray }).push (bornF hp.objs.size)).get? b = some o := fun b o e => Heap.get?_push_of_some _ (Heap.get?_push_of_some _ e)
  have hC₁ := k _ _ hC
  have hget : ((hp.push { cls := .type "tuple", data := .seq [v].toArray }).push (bornF hp.objs.size)).get? (hp.objs.size + 1) = some (bornF hp.objs.size) := by heap_get
  have hcC : (Value.ref 44 :: faultTail).contains (.ref 44) = true := by decide
  unfold isInstance
  repeat (first | with_reducible refine wpAny_loadPart_at hget ?_ | (with_reducible refine wpAny_isSubtype_exc hC₁ ?_; rw [hcC]) | wp_step)
  have X₁ := (X₀.keeps F.keep).keeps k
  refine (looks_findIn X₁ (fault_init _)).here ?_
  dsimp only
  refine wpAny_holding (wpAny_bind ((bind_fn X₁ _ (by rfl)).here ?_))
  dsimp only
  have N' := (N.push F { cls := .type "tuple", data := .seq [v].toArray }).push (F.push _) (bornF hp.objs.size)
  rw [Heap.size_push] at N'
  have z := h (hp.objs.size + 1) hp.objs.size _ ((F.push _).push _) N' (fun p hp => Heap.lt_size (N p hp).1) (Nat.lt_succ_self _) (fun p hp => Nat.lt_succ_of_lt (Heap.lt_size (N p hp).1)) (Heap.get?_none_of_le (Nat.le_succ _)) k
  refine wpAny_bind (wpAny_call (codeAny_mono z fun r s' z => ?_))
  rcases r with e | (v | _ | _ | _) <;> first | exact z | exact z.elim | skip
  obtain ⟨rfl, z⟩ := z
  exact wpAny_pure (wpAny_pure z)
end
section
variable {w : World} {A : Around} {E : Value → Shared → Prop} {s : Shared} {env : Env}
theorem raise_fault {x : Expr} {pos : Pos} {Q : Flow → Shared → Prop} (hh : A.handled = none)
    (h : wpAny (model PR w) A (eval x env) (fun v s₁ => ∃ e d vs sl, v = .ref e ∧ s₁.heap.get? 44 = some faultCls ∧ s₁.heap.get? e = some { cls := .ref 44, dict := d, data := .fields vs, slots := sl } ∧ vs[1]? = some .none ∧ E (.ref e) s₁) E s) :
    wpAny (model PR w) A (exec (.Raise (some x) none pos) env) Q E s := by
  have hcB : (Value.ref 44 :: faultTail).contains (.type "BaseException") = true := by decide
  rw [arm_exec_Raise]
  simp only [arm_evalOpt_some, show evalOpt none env = none from rfl, Option.map]
  refine wpAny_bind (wpAny_standAt ?_)
  unfold raiseStmt
  refine wpAny_bind (wpAny_bind (wpAny_mono h (fun v s₁ h₁ => wpAny_bind (wpAny_standAt (wpAny_pure ?_))) fun _ _ x => x))
  obtain ⟨e, d, vs, sl, rfl, hC, he, h1, hE⟩ := h₁
  obtain ⟨hp, g, d', tk, os⟩ := s₁
  repeat (first | with_reducible refine wpAny_loadPart_at he ?_ | with_reducible refine wpAny_loadPart_at hC ?_ | (with_reducible refine wpAny_isSubtype_exc hC ?_; rw [hcB]) | wp_step)
  rw [h1]
  refine wpAny_pure ?_
  rw [if_neg (by decide)]
  exact wpAny_pure (wpAny_raiseNew_none hh hE)
end
theorem leave_newF {M : Model} {A : Around} {E : Value → Shared → Prop} {s' : Shared} {base g : Heap} {outer : List Env} {L a e : Addr} {m : Str → Option Value} {name : Str} {scope : Scope} {cd : Value} {Q : Unit → Shared → Prop} {news : List (Addr × Obj)} {oe : Obj} {vs : Array Value} {a0 : Value}
    (K : Below A base outer g) (F : Fr g L s'.heap m) (N : News g L s'.heap news) (he : (e, oe) ∈ news) (hc : oe.cls = .ref 44) (hd : oe.data = .fields vs) (h1 : vs[1]? = some .none) (h0 : vs[0]? = some a0)
    (hQ : ∀ h', RaisedN base outer e (.ref 44) [] h' → g.UpToSlots h' → Q () { s' with heap := h' }) (hk : scope.kind = .function := by rfl) :
    wpAny M (A.deeper (envOf name scope L a cd)) (leaving (envOf name scope L a cd) (.ref e)) Q E s' := by
  have K' := K.push (name := name) (a := a) (cd := cd) F hk
  have hen : base.get? e = none := fresh_of_stays K.stays (N _ he).2.2
  refine wpAny_leaving_firstW (a0 := a0) K'.stack K'.frames rfl (N _ he).1 K'.stays hen hd h1 h0 fun h' hL => ?_
  obtain ⟨k1, ⟨_, _, k2⟩, k3, k4⟩ := hL
  exact hQ h' ⟨base, a0, fun _ _ e => e, (fun _ hq => nomatch hq), k1, hen, k2, by rw [← hc]; exact k3⟩ ((Heap.UpToSlots.of_keeps F.keep).trans k4)
theorem fault_exc (P : Params) : mroIn (hd.heap_39 P) 44 (.type "Exception") = some true := by rfl
theorem fault_obj (P : Params) : mroIn (hd.heap_39 P) 44 (.type "object") = some true := by rfl
theorem fault_set (P : Params) : findIn (hd.heap_39 P) (.ref 44) "__setattr__" = some (some (.builtin "object.__setattr__")) := by rfl
theorem fault_text (P : Params) : findIn (hd.heap_39 P) (.ref 44) "text" = some none := by rfl
noncomputable abbrev born (t : Addr) (d : Option Addr) : Obj := { cls := .ref 44, dict := d, data := .fields #[.ref t, .none, .none, .none, .bool false, .none] }
section
variable {w : World} {M : Model} {A : Around} {E : Value → Shared → Prop} {h : Heap} {g : Array GenState} {d : Drawn} {t : Nat} {os : OsState}
theorem fault_init_check {e : Addr} {oe : Obj} {v : Value} {Q : Unit → Shared → Prop} (hC : h.get? 44 = some faultCls) (he : h.get? e = some oe) (hcls : oe.cls = .ref 44) (hq : Q () ⟨h, g, d, t, os⟩) :
    wpAny M A (checkBuiltinCall "Exception.__init__" ⟨[.ref e, v], []⟩) Q E ⟨h, g, d, t, os⟩ := by
  have F := PySem.F.excBase_Exception
  have hcB : (Value.ref 44 :: faultTail).contains (.type "Exception") = true := by decide
  have hshort := F.noStar
  simp only [checkBuiltinCall, F.initKind, F.initSplit, F.initRow]
  repeat (first | (with_reducible refine wpAny_loadPart_at he ?_; rw [hcls]) | with_reducible refine wpAny_loadPart_at hC ?_ | (with_reducible refine wpAny_isSubtype_exc hC ?_; rw [hcB]) | wp_step)
  exact hq
end
section
variable {w : World} {A : Around} {E : Value → Shared → Prop} {s : Shared} {h₀ : Heap} {L e t : Addr} {m : Str → Option Value} {news : List (Addr × Obj)} {g : Obj → List (Addr × Obj)} {v : Value}
theorem exc_init {Q : Value → Shared → Prop} (F : Fr h₀ L s.heap m) (X₀ : (hd.heap_39 w.params).In h₀) (N : News h₀ L s.heap news) (U : UpdF e (born t none) news g)
    (h : ∀ t2 h', Fr h₀ L h' m → News h₀ L h' (g (born t2 none)) → Q .none { s with heap := h' }) :
    wpAny (model PR w) A (call (.builtin "Exception.__init__") [.ref e, v]) Q E s := by
  have X := X₀.keeps F.keep
  have EF := PySem.F.excBase_Exception
  obtain ⟨pre, post, rfl, hg, h1, h2⟩ := U.split
  have he := N (e, born t none) (List.mem_append_right _ (.head _))
  obtain ⟨hp, gg, dd, tk, os⟩ := s
  refine wpAny_call (codeAny_call_builtin EF.init.plain EF.initEntry (fault_init_check (X _ _ (fault_look _)) he.1 rfl ?_))
  show wpAny _ _ (newTuple [v] >>= fun t2 => (Builtin.BaseException.bexcPut (.ref e) 0 t2 >>= fun _ => ret .none)) _ _ _
  refine wpAny_bind (newTuple_N F N (fun h' F' N' => ?_))
  have hlt := Heap.lt_size he.1
  obtain ⟨U1, U2⟩ := news_upd (f := Obj.mapFields (·.setIfInBounds 0 (.ref hp.objs.size))) (pre := (hp.objs.size, { cls := .type "tuple", data := .seq [v].toArray }) :: pre) (o' := born hp.objs.size none) F' N'
    (fun p hp => (List.mem_cons.mp hp).elim (fun q => by rw [q]; exact Nat.ne_of_gt hlt) (h1 p)) h2 rfl rfl
  have he' := N' (e, born t none) (.tail _ (List.mem_append_right _ (.head _)))
  unfold Builtin.BaseException.bexcPut
  refine wpAny_bind (wpAny_bind (wpAny_field he'.1 rfl rfl (wpAny_bind (wpAny_setField he'.1 rfl (Nat.zero_lt_succ _) ?_))))
  show wpAny _ _ (letGo [.ref t] []) _ _ _
  refine wpAny_letGo (wpAny_pure ?_)
  refine h hp.objs.size _ U1 ?_
  rw [hg]
  exact news_sub U2 fun p hp => .tail _ hp
theorem set_text {tx : Str} {Q : Unit → Shared → Prop} (ht : tx = Str.ofString "text") (F : Fr h₀ L s.heap m) (X₀ : (hd.heap_39 w.params).In h₀) (N : News h₀ L s.heap news) (U : UpdF e (born t none) news g)
    (h : ∀ d h' tk', Fr h₀ L h' m → News h₀ L h' (g (born t (some d))) → Q () { s with heap := h', toks := tk' }) :
    wpAny (model PR w) A (setAttr (.ref e) tx v) Q E s := by
  subst ht
  have X := X₀.keeps F.keep
  obtain ⟨pre, post, rfl, hg, h1, h2⟩ := U.split
  have he := N (e, born t none) (List.mem_append_right _ (.head _))
  have I : W.InstAt s.heap e (born t none) 44 none := ⟨he.1, rfl, rfl, trivial⟩
  have SF := PySem.F.store_object
  have SE := PySem.F.store_Exception
  refine set_plain X I (fault_set _) ?_
  have sub : Looks (model PR w) s.heap (isInstance (.ref e) (.type "object")) true := I.type.andThen (looks_mroIn X (fault_obj _))
  refine codeAny_call_builtin SF.slot.plain SF.entry (@check_slot (model PR w) _ _ { s with toks := s.toks + 1 } "object.__setattr__" "object" "__setattr__" (.ref e) [.str (Str.ofString "text") s.toks, v] [] _ SF.kind SF.split sub (SF.args (.ref e) (.str (Str.ofString "text") s.toks) v) ?_)
  rw [osa_eq, refuse_eq]
  have hm : Looks (model PR w) s.heap (mroOf (.ref 44)) (.ref 44 :: faultTail) := (Looks.ld (part := none) (X _ _ (fault_look _))).andThen .now
  refine wpAny_bind (wpAny_bind (I.type _ _ _ _ (fun _ _ e => e) (wpAny_bind (hm _ _ _ _ (fun _ _ e => e) ?_))))
  rw [refuseLoop_ref, refuseLoop_ref, SE.passes]
  refine wpAny_pure (wpAny_bind (I.type _ _ _ _ (fun _ _ e => e) (wpAny_bind (looks_findIn X (fault_text _) _ _ _ _ (fun _ _ e => e) (wpAny_bind (wpAny_pure ?_))))))
  dsimp only
  refine wpAny_bind (wpAny_pure (wpAny_bind (wpAny_bind ?_)))
  refine wpAny_loadPart he.1 ?_
  dsimp only
  refine wpAny_bind (wpAny_bind (wpAny_load (X _ _ (fault_look _)) (wpAny_pure ?_)))
  rw [if_neg (by decide), if_neg (by decide)]
  refine wpAny_bind (wpAny_alloc ?_)
  have F' := F.push { cls := .type "dict", data := .dict #[] }
  have N' := N.push F { cls := .type "dict", data := .dict #[] }
  have hlt := Heap.lt_size he.1
  obtain ⟨U1, U2⟩ := news_upd (f := fun o => { o with dict := some s.heap.objs.size }) (pre := (s.heap.objs.size, { cls := .type "dict", data := .dict #[] }) :: pre) (o' := born t (some s.heap.objs.size)) F' N'
    (fun p hp => (List.mem_cons.mp hp).elim (fun q => by rw [q]; exact Nat.ne_of_gt hlt) (h1 p)) h2 rfl rfl
  refine wpAny_bind (wpAny_update (N' _ (.tail _ (List.mem_append_right _ (.head _)))).1 ?_)
  refine wpAny_pure ?_
  have D := (U2 _ (.head _)).1
  have hlt2 : ∀ p ∈ pre ++ (e, born t (some s.heap.objs.size)) :: post, p.1 ≠ s.heap.objs.size := fun p hp => by
    rcases List.mem_append.mp hp with hp | hp
    · exact Nat.ne_of_lt (Heap.lt_size (N p (List.mem_append_left _ hp)).1)
    · rcases List.mem_cons.mp hp with rfl | hp
      · exact Nat.ne_of_lt hlt
      · exact Nat.ne_of_lt (Heap.lt_size (N p (List.mem_append_right _ (.tail _ hp))).1)
  obtain ⟨V1, V2⟩ := news_upd (f := Obj.putName (Str.ofString "text") (PyData.keyHash w.params (Str.ofString "text")) (.str (Str.ofString "text") (s.toks + 1)) v) (pre := []) (o' := { cls := .type "dict", data := .dict #[⟨PyData.keyHash w.params (Str.ofString "text"), .str (Str.ofString "text") (s.toks + 1), v⟩] 1 }) U1 U2
    (fun _ hp => nomatch hp) hlt2 (by with_unfolding_all rfl) rfl
  refine wpAny_bind (wpAny_pure (wpAny_bind ?_))
  unfold nsSet
  refine wpAny_bind (wpAny_bind (wpAny_askSetting (wpAny_pure (wpAny_bind (wpAny_mkText (wpAny_bind (wpAny_loadPart D ?_)))))))
  dsimp only
  refine wpAny_updatePart D ?_
  refine wpAny_bind (wpAny_lookBehind (V2 _ (.head _)).1 (by with_unfolding_all rfl) ?_)
  refine wpAny_pure ?_
  refine h s.heap.objs.size _ _ V1 ?_
  rw [hg]
  exact news_sub V2 fun p hp => .tail _ hp
end
theorem exc_kind : typeOf (.type "Exception") = pure (.type "type") := by first | rfl | kernel_rfl
theorem exc_stub : Manifest.isStub "Exception" = false := by decide +kernel
noncomputable def Raises44 (E : Value → Shared → Prop) (v : Value) (s₁ : Shared) : Prop := ∃ e d vs sl, v = .ref e ∧ s₁.heap.get? 44 = some faultCls ∧ s₁.heap.get? e = some { cls := .ref 44, dict := d, data := .fields vs, slots := sl } ∧ vs[1]? = some .none ∧ E (.ref e) s₁
theorem raise_fault' {w : World} {A : Around} {E : Value → Shared → Prop} {s : Shared} {env : Env} {x : Expr} {pos : Pos} {Q : Flow → Shared → Prop} (hh : A.handled = none) (h : wpAny (model PR w) A (eval x env) (Raises44 E) E s) :
    wpAny (model PR w) A (exec (.Raise (some x) none pos) env) Q E s := raise_fault hh h
theorem raises_of {w : World} {E : Value → Shared → Prop} {s : Shared} {h₀ : Heap} {L e t : Addr} {d : Option Addr} {m : Str → Option Value} {news : List (Addr × Obj)} (F : Fr h₀ L s.heap m) (X₀ : (hd.heap_39 w.params).In h₀) (N : News h₀ L s.heap news) (he : (e, born t d) ∈ news) (h : E (.ref e) s) :
    Raises44 E (.ref e) s := ⟨e, d, _, _, rfl, (X₀.keeps F.keep) _ _ (fault_look _), (N _ he).1, rfl, h⟩
theorem leave_newB {M : Model} {A : Around} {E : Value → Shared → Prop} {s' : Shared} {base g : Heap} {outer : List Env} {L a e t : Addr} {d : Option Addr} {m : Str → Option Value} {name : Str} {scope : Scope} {cd : Value} {Q : Unit → Shared → Prop} {news : List (Addr × Obj)}
    (K : Below A base outer g) (F : Fr g L s'.heap m) (N : News g L s'.heap news) (he : (e, born t d) ∈ news)
    (hQ : ∀ h', RaisedN base outer e (.ref 44) [] h' → g.UpToSlots h' → Q () { s' with heap := h' }) (hk : scope.kind = .function := by rfl) :
    wpAny M (A.deeper (envOf name scope L a cd)) (leaving (envOf name scope L a cd) (.ref e)) Q E s' := leave_newF K F N he rfl rfl rfl rfl hQ hk
/-- an entry of a dict of names -/
noncomputable abbrev en (w : World) (k : String) (t : Tok) (v : Value) : DictEntry := ⟨PyData.keyHash w.params (Str.ofString k), .str (Str.ofString k) t, v⟩
noncomputable abbrev scoD (w : World) (sy lim gv op sp : Addr) (h : Int) (t1 t2 t3 t4 t5 t6 t7 th : Tok) : Obj :=
  dictOf [en w "symbols" t1 (.ref sy), en w "choose" t2 .none, en w "limits" t3 (.ref lim), en w "given" t4 (.ref gv), en w "open" t5 (.ref op), en w "high" t6 (.int h th), en w "spent" t7 (.ref sp)] 7
/-- a scope stands in the ledger -/
noncomputable def ScoAt (w : World) (S : List (Addr × Obj)) (sc sy lim gv op sp : Addr) (h : Int) : Prop :=
  ∃ d t1 t2 t3 t4 t5 t6 t7 th, (sc, instObj 122 d) ∈ S ∧ (d, scoD w sy lim gv op sp h t1 t2 t3 t4 t5 t6 t7 th) ∈ S
theorem ScoAt.mono {w : World} {S S' : List (Addr × Obj)} {sc sy lim gv op sp : Addr} {h : Int} (H : ScoAt w S sc sy lim gv op sp h) (s : ∀ p ∈ S, p ∈ S') : ScoAt w S' sc sy lim gv op sp h := by
  obtain ⟨d, t1, t2, t3, t4, t5, t6, t7, th, a, b⟩ := H
  exact ⟨d, t1, t2, t3, t4, t5, t6, t7, th, s _ a, s _ b⟩
section
variable {w : World} {f : Addr} {vs : List Value} {fr : Nat} {news : List (Addr × Obj)} {Post : Value → List (Addr × Obj) → Prop} {Exc : Prop} {mean : ExcName → Option Value} {mg mb : Str → Option Value} {dp un : Nat} {gd : Option (List Code)} {cn : Str} {cs : Scope} {a : Addr} {ccd : Value} {cl : List (Str × Addr)} {outer : List Env} {A₀ : Around} {base h₀ : Heap} {L : Addr} {m : Str → Option Value} {s : Shared}
    {Q E : Value → Shared → Prop}
theorem tel_go (B : Below A₀ base outer h₀) (F : Fr h₀ L s.heap m) (X : (hd.heap_39 w.params).In h₀) (T : Top hd.view_39 Lo mean mg mb h₀) (hk : cs.kind = .function) (N : News h₀ L s.heap news) (C : Tel w f vs fr news Post Exc)
    (hd : dp + fr < recursionLimit) (hu : un + 8 * fr < cLine)
    (ret : ∀ r news' h' tk', Fr h₀ L h' m → News h₀ L h' news' → Post r news' → Q r { s with heap := h', toks := tk' })
    (exc : Exc → ∀ e h' tk', Flies base (envX cn cs L a ccd cl :: outer) h₀ L m e h' → E (.ref e) { s with heap := h', toks := tk' }) :
    wpAny (model PR w) (ktrTop dp un gd cn cs L a ccd cl outer) (call (.ref f) vs) Q E s := C _ _ _ _ _ _ _ _ _ _ _ _ _ _ _ _ _ _ _ _ B F X N T hk hd hu ret exc
end
theorem reg_words_Put : True := by
  k_with_none
  w_top off
  k_with "for!" => fail "no word"
  k_with "memr9" => first
    | with_reducible assumption
    | with_reducible exact List.mem_cons_self
    | (with_reducible refine List.mem_cons_of_mem _ ?_; k_extra "memr9")
    | (with_reducible refine List.mem_append_right _ ?_; k_extra "memr9")
    | (with_reducible refine List.mem_append_left _ ?_; k_extra "memr9")
  k_with "mem9" => first
    | k_extra "memr9"
    | assumption
    | k_mem
    | (simp only [List.mem_cons, List.mem_append] at *; simp only [*, true_or, or_true])
    | grind
  k_with "sub8" => first
    | exact List.forall_mem_nil _
    | (refine' List.forall_mem_cons.mpr ⟨?m8, ?_⟩; (case m8 => k_mem); k_extra "sub8")
    | (refine' List.forall_mem_append.mpr ⟨?m8, ?_⟩; (case m8 => k_extra "sub8"); k_extra "sub8")
    | (intro p8 h8; k_mem)
  k_with "sub9" => first
    | k_extra "sub8"
    | (intro p9 h9; first
      | exact h9
      | (simp only [List.mem_cons, List.mem_append] at h9 ⊢; grind))
  k_with "dat9" => repeat' (first
    | exact DatIn.str _ _
    | exact DatIn.int _ _
    | exact DatAll.nil
    | assumption
    | (refine' DatAll.cons ?_ ?_)
    | (refine' DatIn.tuple ?m9 ?_; (case m9 => k_extra "mem9"))
    | (refine' DatIn.list ?m9 ?_; (case m9 => k_extra "mem9"))
    | (refine' DatIn.mono ?s9 ?h9; (case h9 => assumption); (case s9 => k_extra "sub9")))
  k_with "and9" => first
    | ((fail_if_success (fail_if_success (rename _ ∧ _ => hc9))); refine foldP (fun G9 hG9 => ?_); (repeat' (rename _ ∧ _ => hc9; refine and_go hc9 (fun hc8 hc7 => ?_); clear hc9)); refine hG9 ?_; clear hG9 G9)
    | skip
  k_with "fold9" => ((fail_if_success (fail_if_success k_fold)); refine (let q9 := _; let e9 := _; (?_ : wpAny _ _ _ q9 e9 _)))
  k_with "ne9" => first
    | assumption
    | (refine' ne_all ?h9 ?s9; (case h9 => assumption); (case s9 => k_extra "sub9"))
    | (refine' ne_allT ?h9 ?s9; (case h9 => assumption); (case s9 => k_extra "sub9"))
  k_with "off9" => (
    refine' off_of ?_
    repeat' (first
    | exact offL_nil
    | (refine' offL_sub ?h9 ?s9; (case h9 => assumption); (case s9 => k_extra "sub9"))
    | (refine' offL_cons ?o9 ?_; (case o9 => k_extra "ne9"))
    | (refine' offL_app ?_ ?_)))
  k_with "split9" => first | exact Split.base | (refine Split.cons ?_; k_extra "split9") | (refine Split.app ?_; k_extra "split9")
  k_with "same9" => (intro z9 h1 h2 h3; (simp only [List.mem_cons, List.not_mem_nil, or_false, forall_eq_or_imp, forall_eq] at h2); (simp only [List.contains_cons, List.contains_nil, Bool.or_false, Bool.or_eq_false_iff, beq_eq_false_iff_ne, ne_eq] at h3); (simp [h1, h2, h3, kstB]; done))
  k_with "sameW9" => (intro z9 h2 h3; (simp only [List.mem_cons, List.not_mem_nil, or_false, forall_eq_or_imp, forall_eq] at h2); (simp only [List.contains_cons, List.contains_nil, Bool.or_false, Bool.or_eq_false_iff, beq_eq_false_iff_ne, ne_eq] at h3); (simp [h2, h3, kstB]; done))
  k_with "one9" => (first | exact List.forall_mem_nil _ | (refine' List.forall_mem_cons.mpr ⟨?a9, ?_⟩; (case a9 => with_unfolding_all rfl); k_extra "one9"))
  k_with "offE9" => ((try dsimp only); (repeat (refine' List.forall_mem_cons.mpr ⟨?o9, ?_⟩; (case o9 => ((try dsimp only); k_ne)))); (repeat' (rename _ ∧ _ => hc9; rcases hc9 with ⟨hc8, hc7⟩)); first | exact List.forall_mem_nil _ | assumption | exact lt_ne (by assumption) | exact gt_ne (by assumption))
  k_with "rot9" => repeat' (first | exact Rot.here | refine' Rot.next ?_)
  k_with "nes8" => repeat' (first | assumption | exact List.forall_mem_nil _ | (refine' List.forall_mem_cons.mpr ⟨?m8, ?_⟩; (case m8 => dsimp only; first | exact Nat.ne_of_gt (by assumption) | exact Nat.ne_of_lt (by assumption) | assumption | exact Ne.symm (by assumption) | k_ne)) | exact lt_ne (by assumption) | refine' List.forall_mem_append.mpr ⟨?_, ?_⟩)
  k_with "offs8" => repeat' (first | assumption | exact offL_nil | exact offL_swap (by assumption) | (refine' offL_cons ?m8 ?_; (case m8 => dsimp only; first | exact lt_ne (by assumption) | (refine' lt_ne2 ?A8 ?B8; (case B8 => assumption); (case A8 => assumption)) | k_extra "ne9")) | refine' offL_app ?_ ?_)
  k_with "sel9" => repeat' (first | exact Sel.base | (refine' Sel.old ?m9 ?_; (case m9 => assumption)) | (refine' Sel.cut ?m9 ?_; (case m9 => repeat (first | exact List.mem_cons_self | refine List.mem_cons_of_mem _ ?_))) | refine' Sel.keep ?_ | refine' Sel.app ?_)
  k_with "mems9" => repeat' (first | exact List.forall_mem_nil _ | (refine' List.forall_mem_cons.mpr ⟨?m9, ?_⟩; (case m9 => k_extra "mem9")))
  k_with "isd9" => repeat' (first | (refine' dat_cons ?m9 ?_; (case m9 => first | (intro _; k_mem) | (intro q9; exact absurd q9 (dict_no (by assumption))) | (intro q9; exact absurd q9 (by simp [isDat, instObj, dictOf, itR])))) | (refine' dat_app ?m9 ?_; (case m9 => k_extra "sub9")) | (refine' dat_end ?m9; (case m9 => k_extra "sub9")))
  k_with "~execs cons" => k_extra "fold9"
  k_with "~call builtin:isinstance" => (k_here; (with_reducible show wpAny _ _ (call _ [Value.ref _, Value.type _]) _ _ _); kit_cont; k_dflt kit_objs)
  k_with "~eval Call" => k_extra "fold9"
  k_with "~eval Compare" => k_extra "fold9"
  k_with "~eval BinOp" => k_extra "fold9"
  k_with "~eval Tuple" => k_extra "fold9"
  k_with "~eval List" => k_extra "fold9"
  k_with "~eval Subscript" => k_extra "fold9"
  k_with "~eval Attribute" => k_extra "fold9"
  k_with "~eval IfExp" => k_extra "fold9"
  k_with "lt9" => first
    | with_reducible assumption
    | exact cj0 (by with_reducible assumption)
    | exact cj1 (by with_reducible assumption)
    | exact cj2 (by with_reducible assumption)
    | exact cj3 (by with_reducible assumption)
    | exact cj4 (by with_reducible assumption)
    | exact cj5 (by with_reducible assumption)
    | exact cj6 (by with_reducible assumption)
    | exact cj7 (by with_reducible assumption)
    | exact cz1 (by with_reducible assumption)
    | exact cz2 (by with_reducible assumption)
    | exact cz3 (by with_reducible assumption)
    | exact cz4 (by with_reducible assumption)
    | exact cz5 (by with_reducible assumption)
    | exact cz6 (by with_reducible assumption)
    | exact cz7 (by with_reducible assumption)
    | fail "lt9"
  k_with "om9" => first
    | with_reducible assumption
    | exact Nat.le_of_ble_eq_true rfl
    | exact Ne.symm (by with_reducible assumption)
    | ((with_reducible show (_ : Nat) ≠ _); first | exact Nat.ne_of_lt (by k_extra "lt9") | exact Nat.ne_of_gt (by k_extra "lt9"))
    | ((with_reducible show (_ : Nat) < _); first
      | exact rm1 (by with_reducible assumption) (by exact rfl)
      | exact rm0 (by with_reducible assumption)
      | exact rn1 (by with_reducible assumption) (by exact rfl)
      | exact rn3 (by with_reducible assumption) (by exact rfl)
      | exact rf2 (by with_reducible assumption) (by with_reducible assumption) (by exact rfl)
      | exact rm3 (by with_reducible assumption) (by exact rfl)
      | exact uf2 (by with_reducible assumption) (by with_reducible assumption) (by exact rfl)
      | exact um3 (by with_reducible assumption) (by exact rfl)
      | exact rf1 (by with_reducible assumption) (by with_reducible assumption) (by exact rfl)
      | exact rf3 (by with_reducible assumption) (by with_reducible assumption) (by exact rfl)
      | exact uf3 (by with_reducible assumption) (by with_reducible assumption) (by exact rfl)
      | k_extra "lt9")
    | fail "om9"
  k_with "~@k_all" => first | assumption | exact lt_ne (by assumption) | exact gt_ne (by assumption) | (refine' List.forall_mem_append.mpr ⟨?q9a, ?q9b⟩; (case q9a => k_all); (case q9b => k_all))
  k_with "~call builtin:len" => (k_here; (with_reducible show wpAny _ _ (call (Value.builtin "len") [Value.ref _]) _ _ _); (refine KM.len_K (by k_asm) (by k_dflt k_mem) rfl (by simp; omega) ?_))
  k_with "~@k_room" => ((try simp only [depth_mark, depth_under_make, depth_under_kw, depth_in1, depth_deeper, depth_caller]); (try dsimp only [ktrTop]); omega)
  k_with "~@k_units" => ((have hcL9 := cLine_is); (try simp only [units_in1, units_deeper, Around.mark_units, units_caller]); (try dsimp only [ktrTop]); omega)
  k_with "~exec While Compare cons nil" => k_extra "while!"
  k_with "~pyIter ref" => k_extra "iter!"
  k_with "~call ref" => k_extra "call!"
  k_with "~exec For Name Call cons nil" => (k_extra "for!"; k_here; (rename Fr _ _ _ _ => z9lF'); (with_unfolding_all refine' For_invVF z9lF' ?q9k1 ?q9k2 ?_; (case q9k1 => exact rfl); (case q9k2 => exact rfl); k_whole))
  k_with "~exec For Name Name cons nil" => (k_extra "for!"; k_here; (rename Fr _ _ _ _ => z9lF'); (with_unfolding_all refine' For_invVF z9lF' ?q9k1 ?q9k2 ?_; (case q9k1 => exact rfl); (case q9k2 => exact rfl); k_whole))
  k_with "~@k_mem" => first | assumption | exact List.mem_cons_self | (refine List.mem_cons_of_mem _ ?_; k_mem) | (refine List.mem_append_left _ ?_; k_mem) | (refine List.mem_append_right _ ?_; k_mem)
  k_with "~subscriptTail Name Slice ref ref" => (k_here; (with_reducible show wpAny _ _ (subscriptTail _ (PySem.Expr.Slice _ none none _) (Value.ref _) (Value.ref _)) _ _ _); k_dflt (refine' tup_from ?q9F ?q9N ?q9b ?q9o ?q9l ?q9e ?_ ?q9s ?q9t ?q9z; (case q9F => k_asm); (case q9N => k_asm); (case q9b => k_mem); (case q9o => decide); (case q9l => exact Nat.le_of_ble_eq_true rfl); (case q9e => kl_lit); (case q9s => with_unfolding_all rfl); (case q9t => (intro _; with_unfolding_all rfl)); (case q9z => (simp only [List.length_cons, List.length_nil, sizeLine_eq]; omega))); intro z9D' z9h' z9F' z9N' z9l1; (try k_lt z9l1); (try k_sweep))
  k_with "~exec For Name Subscript cons nil" => (k_here; (rename Fr _ _ _ _ => z9lF'); (with_unfolding_all refine' For_turns z9lF' ?_; k_whole))
  k_with "~exec For Name Name cons nil" => (k_extra "turns!"; k_here; (rename Fr _ _ _ _ => z9lF'); (with_unfolding_all refine' For_turns z9lF' ?_; k_whole))
  k_with "~pyIter ref" => (k_here; (with_reducible show wpAny _ _ (pyIter (Value.ref _)) (fun it s₂ => TurnsAt _ _ _ _ _ _ _ _ _ it s₂) _ _); (rename Fr _ _ _ _ => z9lF'); (rename News _ _ _ _ => z9lN'); k_dflt (refine' iter_tupTurns ?q9h z9lF' z9lN' ?q9m ?q9c ?q9d ?_; (case q9h => with_unfolding_all rfl); (case q9m => k_mem); (case q9c => exact rfl); (case q9d => exact rfl)); clear z9lF'; intro z9i' z9l1; (try k_lt z9l1))
  k_with "~pyIter ref" => (k_here; (with_reducible show wpAny _ _ (pyIter (Value.ref _)) (fun it s₂ => TurnsAt _ _ _ _ _ _ _ _ _ it s₂) _ _); (rename Fr _ _ _ _ => z9lF'); (rename News _ _ _ _ => z9lN'); k_dflt (refine' iter_listTurns ?q9h z9lF' z9lN' ?q9m ?q9c ?q9d ?_; (case q9h => with_unfolding_all rfl); (case q9m => k_mem); (case q9c => exact rfl); (case q9d => exact rfl)); clear z9lF'; intro z9i' z9l1; (try k_lt z9l1))
  k_with "~UnrEndW" => ((rename Fr _ _ _ _ => z9lF'); (rename News _ _ _ _ => z9lN'); (refine' unrEnd z9lF' z9lN' ?q9c9 ?q9o9 ⟨?q9k9, ?_⟩; (case q9c9 => repeat' (first | exact Cut.base | refine' Cut.cons ?_)); (case q9o9 => k_extra "offE9"); (case q9k9 => k_subL)); clear z9lF' z9lN')
  k_with "~@size_fits" => (simp only [List.size_toArray, List.length_append, List.length_cons, List.length_nil, sizeLine_eq]; omega)
  k_with "~call builtin:list.extend" => (k_here; (with_reducible show wpAny _ _ (call (Value.builtin _) [Value.ref _, Value.ref _]) _ _ _); k_dflt (refine' ext_list ?q9F ?q9N ?q9b ?q9ne ?q9U ?q9z ?_; (case q9F => k_asm); (case q9N => k_asm); (case q9b => k_mem); (case q9U => k_upd); (case q9ne => exact List.cons_ne_nil _ _); (case q9z => (simp only [List.length_append, List.length_cons, List.length_nil]; omega))); intro z9h' z9F' z9N'; (try k_sweep))
  k_with "~call builtin:list.pop" => (k_here; (with_reducible show wpAny _ _ (call (Value.builtin _) [Value.ref _]) _ _ _); k_dflt (refine' pop_list ?q9F ?q9N ?q9U ?q9z ?_; (case q9F => k_asm); (case q9N => k_asm); (case q9U => k_upd); (case q9z => omega)); intro z9h' z9F' z9N'; (try k_sweep))
  k_with "~exec Raise some none" => (k_here; refine raise_fault (by rfl) ?_)
  k_with "~call ref" => ((with_reducible show wpAny _ _ (call (Value.ref 44) [_]) _ _ _); k_here; k_dflt (refine' call_fault ?q9k1 ?q9k2 ?q9k3 ?_; (case q9k1 => k_asm); (case q9k2 => k_asm); (case q9k3 => k_asm); intro z9e' z9t' z9h' z9F' z9N' z9l1 z9l2 z9l3 z9n' z9k'; (try k_lt z9l1); (try k_lt2 z9l2); (try k_lt z9l3); (try k_sweep); k_enter))
  k_with "~getMethod type:Exception" => (k_here; (with_reducible refine' method_type ?q9F ?q9X exc_kind exc_stub ?q9e ?q9h ?_); k_dflt ((case q9F => k_asm); (case q9X => k_asm); (case q9e => k_is); (case q9h => k_handed)))
  k_with "~call builtin:Exception.__init__" => (k_here; k_dflt (refine' exc_init ?q9F ?q9X ?q9N ?q9U ?_; (case q9F => k_asm); (case q9X => k_asm); (case q9N => k_asm); (case q9U => k_updF); intro z9t' z9h' z9F' z9N'; (try dsimp only at z9N'); (try k_sweep)))
  k_with "~setAttr ref" => ((with_reducible show wpAny _ _ (setAttr (Value.ref _) (PySem.Str.ofString "text") _) _ _ _); k_here; k_dflt (refine' set_text ?q9T ?q9F ?q9X ?q9N ?q9U ?_; (case q9T => rfl); (case q9F => k_asm); (case q9X => k_asm); (case q9N => k_asm); (case q9U => k_updF); intro z9d' z9h' z9tk' z9F' z9N'; (try dsimp only at z9N'); (try k_sweep)))
  k_with "~exec Raise some none" => (k_here; k_dflt (refine raise_fault' (by rfl) ?_))
  k_with "~Raises44" => (k_here; k_dflt (refine' raises_of ?q9F ?q9X ?q9N ?q9m ?_; (case q9F => k_asm); (case q9X => k_asm); (case q9N => k_asm); (case q9m => k_mem)))
  k_with "~leaving ref" => (k_here; k_dflt (refine' leave_newB ?q9k1 ?q9k2 ?q9k3 ?q9k4 ?_; (case q9k1 => assumption); (case q9k2 => assumption); (case q9k3 => assumption); (case q9k4 => k_mem); k_whole; intro z9h' z9R' z9U'; (try dsimp only at z9R' z9U' ⊢)))
  trivial
section
variable {prog : Program} {w : World} {A : Around} {E : Value → Shared → Prop} {s : Shared} {S : List (Addr × Obj)} {Q : Value → Shared → Prop}
open Classical in
theorem eq_nil {h₀ : Heap} {L a b : Addr} {news : List (Addr × Obj)} {vs : List Value} {ds : List Dat} {n i k : Nat} (N : News h₀ L s.heap news) (ha : (a, listOf vs.toArray i) ∈ news) (D : DatAll S vs ds) (sub : ∀ p ∈ S, p ∈ news) (hd : ∀ d ∈ ds, kqdOk n d = true) (hb : (b, listOf [].toArray k) ∈ news)
    (hu : A.units + 1 < cLine) (h : Q (.bool ds.isEmpty) s) : wpAny (model prog w) A (compareOp .Eq (.ref a) (.ref b)) Q E s := by
  refine dat_eq (n := n + 1) (m := 1) (S := news) (fun p hp => (N p hp).1) (.list ha (D.mono sub)) (.list hb .nil) (lst_ok hd) (lst_ok (n := 0) (List.forall_mem_nil _)) (Nat.lt_of_le_of_lt (Nat.add_le_add_left (Nat.min_le_right _ _) _) hu) ?_
  have e : decide (Dat.list ds = Dat.list []) = ds.isEmpty := by cases ds <;> simp
  rw [e]; exact h
end
theorem check_put (w : World) (S : List (Addr × Obj)) (sc inn ind sy lim gv op sp sy2 lim2 gv2 op2 sp2 : Addr) (hi c : Int) (tc : Tok) (nn nop : Nat) (t1 t2 t3 t4 t5 t6 t7 th : Tok) (vb : Value) (e : Ex) (vs : List Value) (names : List Str)
    (hsc : ScoAt w S sc sy lim gv op sp hi) (hop : (op, listOf vs.toArray nop) ∈ S) (hns : DatAll S vs (names.map Dat.str)) (hok : ∀ x ∈ names, PyData.strOk x = true) (he : DatIn S vb e.dat) (hz : e.size ≤ 10000)
    (hc0 : 0 ≤ c) (hc1 : c ≤ 201) (hh0 : 0 ≤ hi) (hh1 : hi ≤ 1000) (hsp : ∀ p ∈ S, p.1 ≠ sp) (hind : ∀ p ∈ S, p.1 ≠ ind) (h1 : sp ≠ ind) (h2 : inn ≠ sp) (h3 : inn ≠ ind) :
    Tel w 208 [.ref sc, .ref inn, vb] 8 ((sp, listOf [.int c tc].toArray nn) :: (ind, scoD w sy2 lim2 gv2 op2 sp2 0 t1 t2 t3 t4 t5 t6 t7 th) :: (inn, instObj 122 ind) :: S)
      (fun r news' => r = .none ∧ ¬ ((if names = [] then 0 else c) + 1 > 200 ∨ hi + e.hgt > 100) ∧ ∃ t' nn' th', news' = (sp, listOf [.int ((if names = [] then 0 else c) + 1) t'].toArray nn') :: (ind, scoD w sy2 lim2 gv2 op2 sp (hi + e.hgt) t1 t2 t3 t4 t5 t6 t7 th') :: (inn, instObj 122 ind) :: S)
      ((if names = [] then 0 else c) + 1 > 200 ∨ hi + e.hgt > 100) := by
  have lp : Challenge.rw_pq0356_01.foot = Challenge.rw_pq0356_01.foot ∧ hd.heap_39 = hd.heap_39 := by k_fill; exact ⟨rfl, rfl⟩
  clear lp
  intro mean mg mb dp un gd cn cs a ccd cl outer A₀ base h₀ L m s Q E B F X N T hk hdp hun hret hexc
  obtain ⟨d, u1, u2, u3, u4, u5, u6, u7, uh, m1, m2⟩ := hsc
  have h1 := neN h1
  have h2 := neN h2
  have h3 := neN h3
  have d1 := neN (hind _ m2)
  have d2 := neN (hsp _ m2)
  have d3 := neN (hind _ m1)
  have d4 := neN (hsp _ m1)
  have d5 := neN (hind _ hop)
  have d6 := neN (hsp _ hop)
  have N2 : News h₀ L s.heap ((sp, listOf [.int c tc].toArray nn) :: (ind, scoD w sy2 lim2 gv2 op2 sp2 0 t1 t2 t3 t4 t5 t6 t7 th) :: (inn, instObj 122 ind) :: (sc, instObj 122 d) :: (d, scoD w sy lim gv op sp hi u1 u2 u3 u4 u5 u6 u7 uh) :: (op, listOf vs.toArray nop) :: S) := news_sub N (by k_extra "sub9")
  clear N
  refine wpAny_call ?_
  k_dflt ktr_enter
  k_with "~compareOp Eq ref ref" => ((with_reducible show wpAny _ _ (compareOp _ _ _) _ _ _); refine Stop.out ?_)
  k_steps
  refine Stop.on ?_
  refine' eq_nil (S := S) (n := 0) (i := nop) (k := 0) (by assumption) (by k_extra "mem9") hns (by k_extra "sub9") ?ok (by k_extra "mem9") (by k_units) ?_
  case ok => (intro y hy; obtain ⟨x, hx, rfl⟩ := List.mem_map.mp hy; exact str_ok (hok x hx))
  k_with "call!" => ((with_reducible show wpAny _ _ (call (Value.ref 201) _) _ _ _); refine Stop.out ?_)
  cases names with
  | nil =>
    rw [show (List.map Dat.str []).isEmpty = true from rfl]
    simp only [reduceIte, reduceCtorEq] at hret hexc
    k_steps
    refine Stop.on ?_
    k_dflt (refine tel_go (by k_asm) (by k_asm) (by k_asm) (by k_asm) (by rfl) (by k_asm) (height w vb e _ (DatIn.mono (by k_extra "sub9") he) hz) (by k_room) (by k_units) ?_ (fun h9 => h9.elim))
    rintro r9 news9 h9 tk9 F9 N9 ⟨tl9, t9, rfl, rfl⟩
    replace N9 := news_sub N9 (fun p hp => List.mem_append_right _ hp)
    (try rw [show ([c].getD (Int.toNat 0) 0) = c from rfl] at N9)
    (try rw [show ([(0:Int)].getD (Int.toNat 0) 0 + 1) = 1 from rfl] at N9)
    k_steps
    all_goals first
      | exact hexc (by omega) _ _ _ ⟨_, by assumption, by assumption, by assumption⟩
      | exact hret _ _ _ _ (by assumption) (news_sub (by assumption) (List.forall_mem_cons.mpr ⟨by k_mem, List.forall_mem_cons.mpr ⟨by k_dflt k_mem, List.forall_mem_cons.mpr ⟨by k_mem, by k_extra "sub9"⟩⟩⟩)) ⟨rfl, by omega, _, _, _, rfl⟩
  | cons n0 ns =>
    rw [show (List.map Dat.str (n0 :: ns)).isEmpty = false from rfl]
    simp only [reduceIte, reduceCtorEq] at hret hexc
    k_steps
    refine Stop.on ?_
    k_dflt (refine tel_go (by k_asm) (by k_asm) (by k_asm) (by k_asm) (by rfl) (by k_asm) (height w vb e _ (DatIn.mono (by k_extra "sub9") he) hz) (by k_room) (by k_units) ?_ (fun h9 => h9.elim))
    rintro r9 news9 h9 tk9 F9 N9 ⟨tl9, t9, rfl, rfl⟩
    replace N9 := news_sub N9 (fun p hp => List.mem_append_right _ hp)
    (try rw [show ([c].getD (Int.toNat 0) 0) = c from rfl] at N9)
    (try rw [show ([(0:Int)].getD (Int.toNat 0) 0 + 1) = 1 from rfl] at N9)
    k_steps
    all_goals first
      | exact hexc (by omega) _ _ _ ⟨_, by assumption, by assumption, by assumption⟩
      | exact hret _ _ _ _ (by assumption) (news_sub (by assumption) (List.forall_mem_cons.mpr ⟨by k_mem, List.forall_mem_cons.mpr ⟨by k_dflt k_mem, List.forall_mem_cons.mpr ⟨by k_mem, by k_extra "sub9"⟩⟩⟩)) ⟨rfl, by omega, _, _, _, rfl⟩
theorem reg_words_Kin : True := by
  k_with_none
  w_top off
  k_with "for!" => fail "no word"
  k_with "memr9" => first
    | with_reducible assumption
    | with_reducible exact List.mem_cons_self
    | (with_reducible refine List.mem_cons_of_mem _ ?_; k_extra "memr9")
    | (with_reducible refine List.mem_append_right _ ?_; k_extra "memr9")
    | (with_reducible refine List.mem_append_left _ ?_; k_extra "memr9")
  k_with "mem9" => first
    | k_extra "memr9"
    | assumption
    | k_mem
    | (simp only [List.mem_cons, List.mem_append] at *; simp only [*, true_or, or_true])
    | grind
  k_with "sub8" => first
    | exact List.forall_mem_nil _
    | (refine' List.forall_mem_cons.mpr ⟨?m8, ?_⟩; (case m8 => k_mem); k_extra "sub8")
    | (refine' List.forall_mem_append.mpr ⟨?m8, ?_⟩; (case m8 => k_extra "sub8"); k_extra "sub8")
    | (intro p8 h8; k_mem)
  k_with "sub9" => first
    | k_extra "sub8"
    | (intro p9 h9; first
      | exact h9
      | (simp only [List.mem_cons, List.mem_append] at h9 ⊢; grind))
  k_with "dat9" => repeat' (first
    | exact DatIn.str _ _
    | exact DatIn.int _ _
    | exact DatAll.nil
    | assumption
    | (refine' DatAll.cons ?_ ?_)
    | (refine' DatIn.tuple ?m9 ?_; (case m9 => k_extra "mem9"))
    | (refine' DatIn.list ?m9 ?_; (case m9 => k_extra "mem9"))
    | (refine' DatIn.mono ?s9 ?h9; (case h9 => assumption); (case s9 => k_extra "sub9")))
  k_with "and9" => first
    | ((fail_if_success (fail_if_success (rename _ ∧ _ => hc9))); refine foldP (fun G9 hG9 => ?_); (repeat' (rename _ ∧ _ => hc9; refine and_go hc9 (fun hc8 hc7 => ?_); clear hc9)); refine hG9 ?_; clear hG9 G9)
    | skip
  k_with "fold9" => ((fail_if_success (fail_if_success k_fold)); refine (let q9 := _; let e9 := _; (?_ : wpAny _ _ _ q9 e9 _)))
  k_with "ne9" => first
    | assumption
    | (refine' ne_all ?h9 ?s9; (case h9 => assumption); (case s9 => k_extra "sub9"))
    | (refine' ne_allT ?h9 ?s9; (case h9 => assumption); (case s9 => k_extra "sub9"))
  k_with "off9" => (
    refine' off_of ?_
    repeat' (first
    | exact offL_nil
    | (refine' offL_sub ?h9 ?s9; (case h9 => assumption); (case s9 => k_extra "sub9"))
    | (refine' offL_cons ?o9 ?_; (case o9 => k_extra "ne9"))
    | (refine' offL_app ?_ ?_)))
  k_with "split9" => first | exact Split.base | (refine Split.cons ?_; k_extra "split9") | (refine Split.app ?_; k_extra "split9")
  k_with "same9" => (intro z9 h1 h2 h3; (simp only [List.mem_cons, List.not_mem_nil, or_false, forall_eq_or_imp, forall_eq] at h2); (simp only [List.contains_cons, List.contains_nil, Bool.or_false, Bool.or_eq_false_iff, beq_eq_false_iff_ne, ne_eq] at h3); (simp [h1, h2, h3, kstB]; done))
  k_with "sameW9" => (intro z9 h2 h3; (simp only [List.mem_cons, List.not_mem_nil, or_false, forall_eq_or_imp, forall_eq] at h2); (simp only [List.contains_cons, List.contains_nil, Bool.or_false, Bool.or_eq_false_iff, beq_eq_false_iff_ne, ne_eq] at h3); (simp [h2, h3, kstB]; done))
  k_with "one9" => (first | exact List.forall_mem_nil _ | (refine' List.forall_mem_cons.mpr ⟨?a9, ?_⟩; (case a9 => with_unfolding_all rfl); k_extra "one9"))
  k_with "offE9" => ((try dsimp only); (repeat (refine' List.forall_mem_cons.mpr ⟨?o9, ?_⟩; (case o9 => ((try dsimp only); k_ne)))); (repeat' (rename _ ∧ _ => hc9; rcases hc9 with ⟨hc8, hc7⟩)); first | exact List.forall_mem_nil _ | assumption | exact lt_ne (by assumption) | exact gt_ne (by assumption))
  k_with "rot9" => repeat' (first | exact Rot.here | refine' Rot.next ?_)
  k_with "nes8" => repeat' (first | assumption | exact List.forall_mem_nil _ | (refine' List.forall_mem_cons.mpr ⟨?m8, ?_⟩; (case m8 => dsimp only; first | exact Nat.ne_of_gt (by assumption) | exact Nat.ne_of_lt (by assumption) | assumption | exact Ne.symm (by assumption) | k_ne)) | exact lt_ne (by assumption) | refine' List.forall_mem_append.mpr ⟨?_, ?_⟩)
  k_with "offs8" => repeat' (first | assumption | exact offL_nil | exact offL_swap (by assumption) | (refine' offL_cons ?m8 ?_; (case m8 => dsimp only; first | exact lt_ne (by assumption) | (refine' lt_ne2 ?A8 ?B8; (case B8 => assumption); (case A8 => assumption)) | k_extra "ne9")) | refine' offL_app ?_ ?_)
  k_with "sel9" => repeat' (first | exact Sel.base | (refine' Sel.old ?m9 ?_; (case m9 => assumption)) | (refine' Sel.cut ?m9 ?_; (case m9 => repeat (first | exact List.mem_cons_self | refine List.mem_cons_of_mem _ ?_))) | refine' Sel.keep ?_ | refine' Sel.app ?_)
  k_with "mems9" => repeat' (first | exact List.forall_mem_nil _ | (refine' List.forall_mem_cons.mpr ⟨?m9, ?_⟩; (case m9 => k_extra "mem9")))
  k_with "isd9" => repeat' (first | (refine' dat_cons ?m9 ?_; (case m9 => first | (intro _; k_mem) | (intro q9; exact absurd q9 (dict_no (by assumption))) | (intro q9; exact absurd q9 (by simp [isDat, instObj, dictOf, itR])))) | (refine' dat_app ?m9 ?_; (case m9 => k_extra "sub9")) | (refine' dat_end ?m9; (case m9 => k_extra "sub9")))
  k_with "~execs cons" => k_extra "fold9"
  k_with "~call builtin:isinstance" => (k_here; (with_reducible show wpAny _ _ (call _ [Value.ref _, Value.type _]) _ _ _); kit_cont; k_dflt kit_objs)
  k_with "~eval Call" => k_extra "fold9"
  k_with "~eval Compare" => k_extra "fold9"
  k_with "~eval BinOp" => k_extra "fold9"
  k_with "~eval Tuple" => k_extra "fold9"
  k_with "~eval List" => k_extra "fold9"
  k_with "~eval Subscript" => k_extra "fold9"
  k_with "~eval Attribute" => k_extra "fold9"
  k_with "~eval IfExp" => k_extra "fold9"
  k_with "lt9" => first
    | with_reducible assumption
    | exact cj0 (by with_reducible assumption)
    | exact cj1 (by with_reducible assumption)
    | exact cj2 (by with_reducible assumption)
    | exact cj3 (by with_reducible assumption)
    | exact cj4 (by with_reducible assumption)
    | exact cj5 (by with_reducible assumption)
    | exact cj6 (by with_reducible assumption)
    | exact cj7 (by with_reducible assumption)
    | exact cz1 (by with_reducible assumption)
    | exact cz2 (by with_reducible assumption)
    | exact cz3 (by with_reducible assumption)
    | exact cz4 (by with_reducible assumption)
    | exact cz5 (by with_reducible assumption)
    | exact cz6 (by with_reducible assumption)
    | exact cz7 (by with_reducible assumption)
    | fail "lt9"
  k_with "om9" => first
    | with_reducible assumption
    | exact Nat.le_of_ble_eq_true rfl
    | exact Ne.symm (by with_reducible assumption)
    | ((with_reducible show (_ : Nat) ≠ _); first | exact Nat.ne_of_lt (by k_extra "lt9") | exact Nat.ne_of_gt (by k_extra "lt9"))
    | ((with_reducible show (_ : Nat) < _); first
      | exact rm1 (by with_reducible assumption) (by exact rfl)
      | exact rm0 (by with_reducible assumption)
      | exact rn1 (by with_reducible assumption) (by exact rfl)
      | exact rn3 (by with_reducible assumption) (by exact rfl)
      | exact rf2 (by with_reducible assumption) (by with_reducible assumption) (by exact rfl)
      | exact rm3 (by with_reducible assumption) (by exact rfl)
      | exact uf2 (by with_reducible assumption) (by with_reducible assumption) (by exact rfl)
      | exact um3 (by with_reducible assumption) (by exact rfl)
      | exact rf1 (by with_reducible assumption) (by with_reducible assumption) (by exact rfl)
      | exact rf3 (by with_reducible assumption) (by with_reducible assumption) (by exact rfl)
      | exact uf3 (by with_reducible assumption) (by with_reducible assumption) (by exact rfl)
      | k_extra "lt9")
    | fail "om9"
  k_with "~@k_all" => first | assumption | exact lt_ne (by assumption) | exact gt_ne (by assumption) | (refine' List.forall_mem_append.mpr ⟨?q9a, ?q9b⟩; (case q9a => k_all); (case q9b => k_all))
  k_with "~call builtin:len" => (k_here; (with_reducible show wpAny _ _ (call (Value.builtin "len") [Value.ref _]) _ _ _); (refine KM.len_K (by k_asm) (by k_dflt k_mem) rfl (by simp; omega) ?_))
  k_with "~@k_room" => ((try simp only [depth_mark, depth_under_make, depth_under_kw, depth_in1, depth_deeper, depth_caller]); (try dsimp only [ktrTop]); omega)
  k_with "~@k_units" => ((have hcL9 := cLine_is); (try simp only [units_in1, units_deeper, Around.mark_units, units_caller]); (try dsimp only [ktrTop]); omega)
  k_with "~exec While Compare cons nil" => k_extra "while!"
  k_with "~pyIter ref" => k_extra "iter!"
  k_with "~call ref" => k_extra "call!"
  k_with "~exec For Name Call cons nil" => (k_extra "for!"; k_here; (rename Fr _ _ _ _ => z9lF'); (with_unfolding_all refine' For_invVF z9lF' ?q9k1 ?q9k2 ?_; (case q9k1 => exact rfl); (case q9k2 => exact rfl); k_whole))
  k_with "~exec For Name Name cons nil" => (k_extra "for!"; k_here; (rename Fr _ _ _ _ => z9lF'); (with_unfolding_all refine' For_invVF z9lF' ?q9k1 ?q9k2 ?_; (case q9k1 => exact rfl); (case q9k2 => exact rfl); k_whole))
  k_with "~@k_mem" => first | assumption | exact List.mem_cons_self | (refine List.mem_cons_of_mem _ ?_; k_mem) | (refine List.mem_append_left _ ?_; k_mem) | (refine List.mem_append_right _ ?_; k_mem)
  k_with "~subscriptTail Name Slice ref ref" => (k_here; (with_reducible show wpAny _ _ (subscriptTail _ (PySem.Expr.Slice _ none none _) (Value.ref _) (Value.ref _)) _ _ _); k_dflt (refine' tup_from ?q9F ?q9N ?q9b ?q9o ?q9l ?q9e ?_ ?q9s ?q9t ?q9z; (case q9F => k_asm); (case q9N => k_asm); (case q9b => k_mem); (case q9o => decide); (case q9l => exact Nat.le_of_ble_eq_true rfl); (case q9e => kl_lit); (case q9s => with_unfolding_all rfl); (case q9t => (intro _; with_unfolding_all rfl)); (case q9z => (simp only [List.length_cons, List.length_nil, sizeLine_eq]; omega))); intro z9D' z9h' z9F' z9N' z9l1; (try k_lt z9l1); (try k_sweep))
  k_with "~exec For Name Subscript cons nil" => (k_here; (rename Fr _ _ _ _ => z9lF'); (with_unfolding_all refine' For_turns z9lF' ?_; k_whole))
  k_with "~exec For Name Name cons nil" => (k_extra "turns!"; k_here; (rename Fr _ _ _ _ => z9lF'); (with_unfolding_all refine' For_turns z9lF' ?_; k_whole))
  k_with "~pyIter ref" => (k_here; (with_reducible show wpAny _ _ (pyIter (Value.ref _)) (fun it s₂ => TurnsAt _ _ _ _ _ _ _ _ _ it s₂) _ _); (rename Fr _ _ _ _ => z9lF'); (rename News _ _ _ _ => z9lN'); k_dflt (refine' iter_tupTurns ?q9h z9lF' z9lN' ?q9m ?q9c ?q9d ?_; (case q9h => with_unfolding_all rfl); (case q9m => k_mem); (case q9c => exact rfl); (case q9d => exact rfl)); clear z9lF'; intro z9i' z9l1; (try k_lt z9l1))
  k_with "~pyIter ref" => (k_here; (with_reducible show wpAny _ _ (pyIter (Value.ref _)) (fun it s₂ => TurnsAt _ _ _ _ _ _ _ _ _ it s₂) _ _); (rename Fr _ _ _ _ => z9lF'); (rename News _ _ _ _ => z9lN'); k_dflt (refine' iter_listTurns ?q9h z9lF' z9lN' ?q9m ?q9c ?q9d ?_; (case q9h => with_unfolding_all rfl); (case q9m => k_mem); (case q9c => exact rfl); (case q9d => exact rfl)); clear z9lF'; intro z9i' z9l1; (try k_lt z9l1))
  k_with "~UnrEndW" => ((rename Fr _ _ _ _ => z9lF'); (rename News _ _ _ _ => z9lN'); (refine' unrEnd z9lF' z9lN' ?q9c9 ?q9o9 ⟨?q9k9, ?_⟩; (case q9c9 => repeat' (first | exact Cut.base | refine' Cut.cons ?_)); (case q9o9 => k_extra "offE9"); (case q9k9 => k_subL)); clear z9lF' z9lN')
  k_with "~@size_fits" => (simp only [List.size_toArray, List.length_append, List.length_cons, List.length_nil, sizeLine_eq]; omega)
  k_with "~call builtin:list.extend" => (k_here; (with_reducible show wpAny _ _ (call (Value.builtin _) [Value.ref _, Value.ref _]) _ _ _); k_dflt (refine' ext_list ?q9F ?q9N ?q9b ?q9ne ?q9U ?q9z ?_; (case q9F => k_asm); (case q9N => k_asm); (case q9b => k_mem); (case q9U => k_upd); (case q9ne => exact List.cons_ne_nil _ _); (case q9z => (simp only [List.length_append, List.length_cons, List.length_nil]; omega))); intro z9h' z9F' z9N'; (try k_sweep))
  k_with "~call builtin:list.pop" => (k_here; (with_reducible show wpAny _ _ (call (Value.builtin _) [Value.ref _]) _ _ _); k_dflt (refine' pop_list ?q9F ?q9N ?q9U ?q9z ?_; (case q9F => k_asm); (case q9N => k_asm); (case q9U => k_upd); (case q9z => omega)); intro z9h' z9F' z9N'; (try k_sweep))
  k_with "~exec Raise some none" => (k_here; refine raise_fault (by rfl) ?_)
  k_with "~call ref" => ((with_reducible show wpAny _ _ (call (Value.ref 44) [_]) _ _ _); k_here; k_dflt (refine' call_fault ?q9k1 ?q9k2 ?q9k3 ?_; (case q9k1 => k_asm); (case q9k2 => k_asm); (case q9k3 => k_asm); intro z9e' z9t' z9h' z9F' z9N' z9l1 z9l2 z9l3 z9n' z9k'; (try k_lt z9l1); (try k_lt2 z9l2); (try k_lt z9l3); (try k_sweep); k_enter))
  k_with "~getMethod type:Exception" => (k_here; (with_reducible refine' method_type ?q9F ?q9X exc_kind exc_stub ?q9e ?q9h ?_); k_dflt ((case q9F => k_asm); (case q9X => k_asm); (case q9e => k_is); (case q9h => k_handed)))
  k_with "~call builtin:Exception.__init__" => (k_here; k_dflt (refine' exc_init ?q9F ?q9X ?q9N ?q9U ?_; (case q9F => k_asm); (case q9X => k_asm); (case q9N => k_asm); (case q9U => k_updF); intro z9t' z9h' z9F' z9N'; (try dsimp only at z9N'); (try k_sweep)))
  k_with "~setAttr ref" => ((with_reducible show wpAny _ _ (setAttr (Value.ref _) (PySem.Str.ofString "text") _) _ _ _); k_here; k_dflt (refine' set_text ?q9T ?q9F ?q9X ?q9N ?q9U ?_; (case q9T => rfl); (case q9F => k_asm); (case q9X => k_asm); (case q9N => k_asm); (case q9U => k_updF); intro z9d' z9h' z9tk' z9F' z9N'; (try dsimp only at z9N'); (try k_sweep)))
  k_with "~exec Raise some none" => (k_here; k_dflt (refine raise_fault' (by rfl) ?_))
  k_with "~Raises44" => (k_here; k_dflt (refine' raises_of ?q9F ?q9X ?q9N ?q9m ?_; (case q9F => k_asm); (case q9X => k_asm); (case q9N => k_asm); (case q9m => k_mem)))
  k_with "~leaving ref" => (k_here; k_dflt (refine' leave_newB ?q9k1 ?q9k2 ?q9k3 ?q9k4 ?_; (case q9k1 => assumption); (case q9k2 => assumption); (case q9k3 => assumption); (case q9k4 => k_mem); k_whole; intro z9h' z9R' z9U'; (try dsimp only at z9R' z9U' ⊢)))
  trivial
theorem is_numeric (w : World) (tt : Tok) (news : List (Addr × Obj)) : Tel w 65 [.int 1 tt] 3 news (fun r news' => r = .bool true ∧ news' = news) False := by
  have lp : Challenge.rw_pq0356_01.foot = Challenge.rw_pq0356_01.foot ∧ hd.heap_39 = hd.heap_39 := by k_fill; exact ⟨rfl, rfl⟩
  clear lp
  intro mean mg mb dp un gd cn cs a ccd cl outer A₀ base h₀ L m s Q E B F X N T hk hdp hun hret hexc
  refine wpAny_call ?_
  k_dflt ktr_enter
  k_steps
  exact hret _ _ _ _ (by assumption) (by assumption) ⟨rfl, rfl⟩
theorem higher_kind (w : World) (tt tu : Tok) (news : List (Addr × Obj)) : Tel w 72 [.int 1 tt, .int 1 tu] 5 news (fun r news' => (∃ t, r = .int 1 t) ∧ news' = news) False := by
  intro mean mg mb dp un gd cn cs a ccd cl outer A₀ base h₀ L m s Q E B F X N T hk hdp hun hret hexc
  refine wpAny_call ?_
  k_dflt ktr_enter
  k_steps
  all_goals exact hret _ _ _ _ (by assumption) (by assumption) ⟨⟨_, rfl⟩, rfl⟩
theorem as_kind (w : World) (v : Value) (t : Ty) (tt : Tok) (news : List (Addr × Obj)) (hv : DatIn news v t.dat) : Tel w 161 [v, .int 1 tt] 3 news (fun r news' => r = v ∧ news' = news) False := by
  intro mean mg mb dp un gd cn cs a ccd cl outer A₀ base h₀ L m s Q E B F X N T hk hdp hun hret hexc
  cases t with
  | var =>
    obtain ⟨ad, nn, t2, t3, t4, rfl, hm⟩ := Ty.var_inv hv
    refine wpAny_call ?_
    k_dflt ktr_enter
    k_steps
    exact hret _ _ _ _ (by assumption) (by assumption) ⟨rfl, rfl⟩
  | one =>
    obtain ⟨ad, nn, t1, t2, ad2, n2, t3, t4, rfl, hm, hm2⟩ := Ty.one_inv hv
    refine wpAny_call ?_
    k_dflt ktr_enter
    k_steps
    exact hret _ _ _ _ (by assumption) (by assumption) ⟨rfl, rfl⟩
  | ng t =>
    obtain ⟨ad, nn, t2, t3, ve, rfl, hm, he⟩ := Ty.ng_inv hv
    refine wpAny_call ?_
    k_dflt ktr_enter
    k_steps
    exact hret _ _ _ _ (by assumption) (by assumption) ⟨rfl, rfl⟩
  | bi p l r =>
    obtain ⟨ad, nn, t2, t3, vl, vr, rfl, hm, hl, hr⟩ := Ty.bi_inv hv
    refine wpAny_call ?_
    k_dflt ktr_enter
    k_steps
    exact hret _ _ _ _ (by assumption) (by assumption) ⟨rfl, rfl⟩
theorem reg_words_Val : True := by
  k_with_none
  w_top off
  k_with "for!" => fail "no word"
  k_with "memr9" => first
    | with_reducible assumption
    | with_reducible exact List.mem_cons_self
    | (with_reducible refine List.mem_cons_of_mem _ ?_; k_extra "memr9")
    | (with_reducible refine List.mem_append_right _ ?_; k_extra "memr9")
    | (with_reducible refine List.mem_append_left _ ?_; k_extra "memr9")
  k_with "mem9" => first
    | k_extra "memr9"
    | assumption
    | k_mem
    | (simp only [List.mem_cons, List.mem_append] at *; simp only [*, true_or, or_true])
    | grind
  k_with "sub8" => first
    | exact List.forall_mem_nil _
    | (refine' List.forall_mem_cons.mpr ⟨?m8, ?_⟩; (case m8 => k_mem); k_extra "sub8")
    | (refine' List.forall_mem_append.mpr ⟨?m8, ?_⟩; (case m8 => k_extra "sub8"); k_extra "sub8")
    | (intro p8 h8; k_mem)
  k_with "sub9" => first
    | k_extra "sub8"
    | (intro p9 h9; first
      | exact h9
      | (simp only [List.mem_cons, List.mem_append] at h9 ⊢; grind))
  k_with "dat9" => repeat' (first
    | exact DatIn.str _ _
    | exact DatIn.int _ _
    | exact DatAll.nil
    | assumption
    | (refine' DatAll.cons ?_ ?_)
    | (refine' DatIn.tuple ?m9 ?_; (case m9 => k_extra "mem9"))
    | (refine' DatIn.list ?m9 ?_; (case m9 => k_extra "mem9"))
    | (refine' DatIn.mono ?s9 ?h9; (case h9 => assumption); (case s9 => k_extra "sub9")))
  k_with "and9" => first
    | ((fail_if_success (fail_if_success (rename _ ∧ _ => hc9))); refine foldP (fun G9 hG9 => ?_); (repeat' (rename _ ∧ _ => hc9; refine and_go hc9 (fun hc8 hc7 => ?_); clear hc9)); refine hG9 ?_; clear hG9 G9)
    | skip
  k_with "fold9" => ((fail_if_success (fail_if_success k_fold)); refine (let q9 := _; let e9 := _; (?_ : wpAny _ _ _ q9 e9 _)))
  k_with "ne9" => first
    | assumption
    | (refine' ne_all ?h9 ?s9; (case h9 => assumption); (case s9 => k_extra "sub9"))
    | (refine' ne_allT ?h9 ?s9; (case h9 => assumption); (case s9 => k_extra "sub9"))
  k_with "off9" => (
    refine' off_of ?_
    repeat' (first
    | exact offL_nil
    | (refine' offL_sub ?h9 ?s9; (case h9 => assumption); (case s9 => k_extra "sub9"))
    | (refine' offL_cons ?o9 ?_; (case o9 => k_extra "ne9"))
    | (refine' offL_app ?_ ?_)))
  k_with "split9" => first | exact Split.base | (refine Split.cons ?_; k_extra "split9") | (refine Split.app ?_; k_extra "split9")
  k_with "same9" => (intro z9 h1 h2 h3; (simp only [List.mem_cons, List.not_mem_nil, or_false, forall_eq_or_imp, forall_eq] at h2); (simp only [List.contains_cons, List.contains_nil, Bool.or_false, Bool.or_eq_false_iff, beq_eq_false_iff_ne, ne_eq] at h3); (simp [h1, h2, h3, kstB]; done))
  k_with "sameW9" => (intro z9 h2 h3; (simp only [List.mem_cons, List.not_mem_nil, or_false, forall_eq_or_imp, forall_eq] at h2); (simp only [List.contains_cons, List.contains_nil, Bool.or_false, Bool.or_eq_false_iff, beq_eq_false_iff_ne, ne_eq] at h3); (simp [h2, h3, kstB]; done))
  k_with "one9" => (first | exact List.forall_mem_nil _ | (refine' List.forall_mem_cons.mpr ⟨?a9, ?_⟩; (case a9 => with_unfolding_all rfl); k_extra "one9"))
  k_with "offE9" => ((try dsimp only); (repeat (refine' List.forall_mem_cons.mpr ⟨?o9, ?_⟩; (case o9 => ((try dsimp only); k_ne)))); (repeat' (rename _ ∧ _ => hc9; rcases hc9 with ⟨hc8, hc7⟩)); first | exact List.forall_mem_nil _ | assumption | exact lt_ne (by assumption) | exact gt_ne (by assumption))
  k_with "rot9" => repeat' (first | exact Rot.here | refine' Rot.next ?_)
  k_with "nes8" => repeat' (first | assumption | exact List.forall_mem_nil _ | (refine' List.forall_mem_cons.mpr ⟨?m8, ?_⟩; (case m8 => dsimp only; first | exact Nat.ne_of_gt (by assumption) | exact Nat.ne_of_lt (by assumption) | assumption | exact Ne.symm (by assumption) | k_ne)) | exact lt_ne (by assumption) | refine' List.forall_mem_append.mpr ⟨?_, ?_⟩)
  k_with "offs8" => repeat' (first | assumption | exact offL_nil | exact offL_swap (by assumption) | (refine' offL_cons ?m8 ?_; (case m8 => dsimp only; first | exact lt_ne (by assumption) | (refine' lt_ne2 ?A8 ?B8; (case B8 => assumption); (case A8 => assumption)) | k_extra "ne9")) | refine' offL_app ?_ ?_)
  k_with "sel9" => repeat' (first | exact Sel.base | (refine' Sel.old ?m9 ?_; (case m9 => assumption)) | (refine' Sel.cut ?m9 ?_; (case m9 => repeat (first | exact List.mem_cons_self | refine List.mem_cons_of_mem _ ?_))) | refine' Sel.keep ?_ | refine' Sel.app ?_)
  k_with "mems9" => repeat' (first | exact List.forall_mem_nil _ | (refine' List.forall_mem_cons.mpr ⟨?m9, ?_⟩; (case m9 => k_extra "mem9")))
  k_with "isd9" => repeat' (first | (refine' dat_cons ?m9 ?_; (case m9 => first | (intro _; k_mem) | (intro q9; exact absurd q9 (dict_no (by assumption))) | (intro q9; exact absurd q9 (by simp [isDat, instObj, dictOf, itR])))) | (refine' dat_app ?m9 ?_; (case m9 => k_extra "sub9")) | (refine' dat_end ?m9; (case m9 => k_extra "sub9")))
  k_with "~execs cons" => k_extra "fold9"
  k_with "~call builtin:isinstance" => (k_here; (with_reducible show wpAny _ _ (call _ [Value.ref _, Value.type _]) _ _ _); kit_cont; k_dflt kit_objs)
  k_with "~eval Call" => k_extra "fold9"
  k_with "~eval Compare" => k_extra "fold9"
  k_with "~eval BinOp" => k_extra "fold9"
  k_with "~eval Tuple" => k_extra "fold9"
  k_with "~eval List" => k_extra "fold9"
  k_with "~eval Subscript" => k_extra "fold9"
  k_with "~eval Attribute" => k_extra "fold9"
  k_with "~eval IfExp" => k_extra "fold9"
  k_with "lt9" => first
    | with_reducible assumption
    | exact cj0 (by with_reducible assumption)
    | exact cj1 (by with_reducible assumption)
    | exact cj2 (by with_reducible assumption)
    | exact cj3 (by with_reducible assumption)
    | exact cj4 (by with_reducible assumption)
    | exact cj5 (by with_reducible assumption)
    | exact cj6 (by with_reducible assumption)
    | exact cj7 (by with_reducible assumption)
    | exact cz1 (by with_reducible assumption)
    | exact cz2 (by with_reducible assumption)
    | exact cz3 (by with_reducible assumption)
    | exact cz4 (by with_reducible assumption)
    | exact cz5 (by with_reducible assumption)
    | exact cz6 (by with_reducible assumption)
    | exact cz7 (by with_reducible assumption)
    | fail "lt9"
  k_with "om9" => first
    | with_reducible assumption
    | exact Nat.le_of_ble_eq_true rfl
    | exact Ne.symm (by with_reducible assumption)
    | ((with_reducible show (_ : Nat) ≠ _); first | exact Nat.ne_of_lt (by k_extra "lt9") | exact Nat.ne_of_gt (by k_extra "lt9"))
    | ((with_reducible show (_ : Nat) < _); first
      | exact rm1 (by with_reducible assumption) (by exact rfl)
      | exact rm0 (by with_reducible assumption)
      | exact rn1 (by with_reducible assumption) (by exact rfl)
      | exact rn3 (by with_reducible assumption) (by exact rfl)
      | exact rf2 (by with_reducible assumption) (by with_reducible assumption) (by exact rfl)
      | exact rm3 (by with_reducible assumption) (by exact rfl)
      | exact uf2 (by with_reducible assumption) (by with_reducible assumption) (by exact rfl)
      | exact um3 (by with_reducible assumption) (by exact rfl)
      | exact rf1 (by with_reducible assumption) (by with_reducible assumption) (by exact rfl)
      | exact rf3 (by with_reducible assumption) (by with_reducible assumption) (by exact rfl)
      | exact uf3 (by with_reducible assumption) (by with_reducible assumption) (by exact rfl)
      | k_extra "lt9")
    | fail "om9"
  k_with "~@k_all" => first | assumption | exact lt_ne (by assumption) | exact gt_ne (by assumption) | (refine' List.forall_mem_append.mpr ⟨?q9a, ?q9b⟩; (case q9a => k_all); (case q9b => k_all))
  k_with "~call builtin:len" => (k_here; (with_reducible show wpAny _ _ (call (Value.builtin "len") [Value.ref _]) _ _ _); (refine KM.len_K (by k_asm) (by k_dflt k_mem) rfl (by simp; omega) ?_))
  k_with "~@k_room" => ((try simp only [depth_mark, depth_under_make, depth_under_kw, depth_in1, depth_deeper, depth_caller]); (try dsimp only [ktrTop]); omega)
  k_with "~@k_units" => ((have hcL9 := cLine_is); (try simp only [units_in1, units_deeper, Around.mark_units, units_caller]); (try dsimp only [ktrTop]); omega)
  k_with "~exec While Compare cons nil" => k_extra "while!"
  k_with "~pyIter ref" => k_extra "iter!"
  k_with "~call ref" => k_extra "call!"
  k_with "~exec For Name Call cons nil" => (k_extra "for!"; k_here; (rename Fr _ _ _ _ => z9lF'); (with_unfolding_all refine' For_invVF z9lF' ?q9k1 ?q9k2 ?_; (case q9k1 => exact rfl); (case q9k2 => exact rfl); k_whole))
  k_with "~exec For Name Name cons nil" => (k_extra "for!"; k_here; (rename Fr _ _ _ _ => z9lF'); (with_unfolding_all refine' For_invVF z9lF' ?q9k1 ?q9k2 ?_; (case q9k1 => exact rfl); (case q9k2 => exact rfl); k_whole))
  k_with "~@k_mem" => first | assumption | exact List.mem_cons_self | (refine List.mem_cons_of_mem _ ?_; k_mem) | (refine List.mem_append_left _ ?_; k_mem) | (refine List.mem_append_right _ ?_; k_mem)
  k_with "~subscriptTail Name Slice ref ref" => (k_here; (with_reducible show wpAny _ _ (subscriptTail _ (PySem.Expr.Slice _ none none _) (Value.ref _) (Value.ref _)) _ _ _); k_dflt (refine' tup_from ?q9F ?q9N ?q9b ?q9o ?q9l ?q9e ?_ ?q9s ?q9t ?q9z; (case q9F => k_asm); (case q9N => k_asm); (case q9b => k_mem); (case q9o => decide); (case q9l => exact Nat.le_of_ble_eq_true rfl); (case q9e => kl_lit); (case q9s => with_unfolding_all rfl); (case q9t => (intro _; with_unfolding_all rfl)); (case q9z => (simp only [List.length_cons, List.length_nil, sizeLine_eq]; omega))); intro z9D' z9h' z9F' z9N' z9l1; (try k_lt z9l1); (try k_sweep))
  k_with "~exec For Name Subscript cons nil" => (k_here; (rename Fr _ _ _ _ => z9lF'); (with_unfolding_all refine' For_turns z9lF' ?_; k_whole))
  k_with "~exec For Name Name cons nil" => (k_extra "turns!"; k_here; (rename Fr _ _ _ _ => z9lF'); (with_unfolding_all refine' For_turns z9lF' ?_; k_whole))
  k_with "~pyIter ref" => (k_here; (with_reducible show wpAny _ _ (pyIter (Value.ref _)) (fun it s₂ => TurnsAt _ _ _ _ _ _ _ _ _ it s₂) _ _); (rename Fr _ _ _ _ => z9lF'); (rename News _ _ _ _ => z9lN'); k_dflt (refine' iter_tupTurns ?q9h z9lF' z9lN' ?q9m ?q9c ?q9d ?_; (case q9h => with_unfolding_all rfl); (case q9m => k_mem); (case q9c => exact rfl); (case q9d => exact rfl)); clear z9lF'; intro z9i' z9l1; (try k_lt z9l1))
  k_with "~pyIter ref" => (k_here; (with_reducible show wpAny _ _ (pyIter (Value.ref _)) (fun it s₂ => TurnsAt _ _ _ _ _ _ _ _ _ it s₂) _ _); (rename Fr _ _ _ _ => z9lF'); (rename News _ _ _ _ => z9lN'); k_dflt (refine' iter_listTurns ?q9h z9lF' z9lN' ?q9m ?q9c ?q9d ?_; (case q9h => with_unfolding_all rfl); (case q9m => k_mem); (case q9c => exact rfl); (case q9d => exact rfl)); clear z9lF'; intro z9i' z9l1; (try k_lt z9l1))
  k_with "~UnrEndW" => ((rename Fr _ _ _ _ => z9lF'); (rename News _ _ _ _ => z9lN'); (refine' unrEnd z9lF' z9lN' ?q9c9 ?q9o9 ⟨?q9k9, ?_⟩; (case q9c9 => repeat' (first | exact Cut.base | refine' Cut.cons ?_)); (case q9o9 => k_extra "offE9"); (case q9k9 => k_subL)); clear z9lF' z9lN')
  k_with "~@size_fits" => (simp only [List.size_toArray, List.length_append, List.length_cons, List.length_nil, sizeLine_eq]; omega)
  k_with "~call builtin:list.extend" => (k_here; (with_reducible show wpAny _ _ (call (Value.builtin _) [Value.ref _, Value.ref _]) _ _ _); k_dflt (refine' ext_list ?q9F ?q9N ?q9b ?q9ne ?q9U ?q9z ?_; (case q9F => k_asm); (case q9N => k_asm); (case q9b => k_mem); (case q9U => k_upd); (case q9ne => exact List.cons_ne_nil _ _); (case q9z => (simp only [List.length_append, List.length_cons, List.length_nil]; omega))); intro z9h' z9F' z9N'; (try k_sweep))
  k_with "~call builtin:list.pop" => (k_here; (with_reducible show wpAny _ _ (call (Value.builtin _) [Value.ref _]) _ _ _); k_dflt (refine' pop_list ?q9F ?q9N ?q9U ?q9z ?_; (case q9F => k_asm); (case q9N => k_asm); (case q9U => k_upd); (case q9z => omega)); intro z9h' z9F' z9N'; (try k_sweep))
  k_with "~exec Raise some none" => (k_here; refine raise_fault (by rfl) ?_)
  k_with "~call ref" => ((with_reducible show wpAny _ _ (call (Value.ref 44) [_]) _ _ _); k_here; k_dflt (refine' call_fault ?q9k1 ?q9k2 ?q9k3 ?_; (case q9k1 => k_asm); (case q9k2 => k_asm); (case q9k3 => k_asm); intro z9e' z9t' z9h' z9F' z9N' z9l1 z9l2 z9l3 z9n' z9k'; (try k_lt z9l1); (try k_lt2 z9l2); (try k_lt z9l3); (try k_sweep); k_enter))
  k_with "~getMethod type:Exception" => (k_here; (with_reducible refine' method_type ?q9F ?q9X exc_kind exc_stub ?q9e ?q9h ?_); k_dflt ((case q9F => k_asm); (case q9X => k_asm); (case q9e => k_is); (case q9h => k_handed)))
  k_with "~call builtin:Exception.__init__" => (k_here; k_dflt (refine' exc_init ?q9F ?q9X ?q9N ?q9U ?_; (case q9F => k_asm); (case q9X => k_asm); (case q9N => k_asm); (case q9U => k_updF); intro z9t' z9h' z9F' z9N'; (try dsimp only at z9N'); (try k_sweep)))
  k_with "~setAttr ref" => ((with_reducible show wpAny _ _ (setAttr (Value.ref _) (PySem.Str.ofString "text") _) _ _ _); k_here; k_dflt (refine' set_text ?q9T ?q9F ?q9X ?q9N ?q9U ?_; (case q9T => rfl); (case q9F => k_asm); (case q9X => k_asm); (case q9N => k_asm); (case q9U => k_updF); intro z9d' z9h' z9tk' z9F' z9N'; (try dsimp only at z9N'); (try k_sweep)))
  k_with "~exec Raise some none" => (k_here; k_dflt (refine raise_fault' (by rfl) ?_))
  k_with "~Raises44" => (k_here; k_dflt (refine' raises_of ?q9F ?q9X ?q9N ?q9m ?_; (case q9F => k_asm); (case q9X => k_asm); (case q9N => k_asm); (case q9m => k_mem)))
  k_with "~leaving ref" => (k_here; k_dflt (refine' leave_newB ?q9k1 ?q9k2 ?q9k3 ?q9k4 ?_; (case q9k1 => assumption); (case q9k2 => assumption); (case q9k3 => assumption); (case q9k4 => k_mem); k_whole; intro z9h' z9R' z9U'; (try dsimp only at z9R' z9U' ⊢)))
  trivial
theorem rvalue (w : World) (v : Value) (sc : Addr) (fr : Nat) (hfr : 5 ≤ fr) (news : List (Addr × Obj)) (P : Value → List (Addr × Obj) → Prop) (Ex : Prop) (C : Tel w 278 [v, .ref sc] fr news P Ex) (hP : ∀ r news', P r news' → ∃ t : Ty, DatIn news' r t.dat) (hv : handedIn v = true) :
    Tel w 285 [v, .ref sc] (fr + 2) news P Ex := by
  have lp : Challenge.rw_pq0356_01.foot = Challenge.rw_pq0356_01.foot ∧ hd.heap_39 = hd.heap_39 := by k_fill; exact ⟨rfl, rfl⟩
  clear lp
  intro mean mg mb dp un gd cn cs a ccd cl outer A₀ base h₀ L m s Q E B F X N T hk hdp hun hret hexc
  k_with "call!" => ((with_reducible show wpAny _ _ (call (Value.ref 278) _) _ _ _); refine Stop.out ?_)
  refine wpAny_call ?_
  k_dflt ktr_enter
  k_steps
  refine Stop.on ?_
  k_dflt (refine tel_go (by k_asm) (by k_asm) (by k_asm) (by k_asm) (by rfl) (by k_asm) C (by k_room) (by k_units) ?_ ?_)
  · rintro r9 news9 h9 tk9 F9 N9 hp9
    obtain ⟨t9, hd9⟩ := hP _ _ hp9
    cases t9 with
    | var =>
      obtain ⟨ad, nn, t2, t3, t4, rfl, hm⟩ := Ty.var_inv hd9
      k_steps
      exact hret _ _ _ _ (by assumption) (by assumption) hp9
    | one =>
      obtain ⟨ad, nn, t1, t2, ad2, n2, t3, t4, rfl, hm, hm2⟩ := Ty.one_inv hd9
      k_steps
      exact hret _ _ _ _ (by assumption) (by assumption) hp9
    | ng t =>
      obtain ⟨ad, nn, t2, t3, ve, rfl, hm, he⟩ := Ty.ng_inv hd9
      k_steps
      exact hret _ _ _ _ (by assumption) (by assumption) hp9
    | bi p l r =>
      obtain ⟨ad, nn, t2, t3, vl, vr, rfl, hm, hl, hr⟩ := Ty.bi_inv hd9
      cases p
      all_goals k_steps
      all_goals exact hret _ _ _ _ (by assumption) (by assumption) hp9
  · intro hx e9 h9 tk9 Fl9
    exact fly_on Fl9 (by assumption) (by assumption) (fun h' Fl' => hexc hx _ _ _ Fl')
theorem reg_words_Sym : True := by
  k_with_none
  w_top off
  k_with "for!" => fail "no word"
  k_with "memr9" => first
    | with_reducible assumption
    | with_reducible exact List.mem_cons_self
    | (with_reducible refine List.mem_cons_of_mem _ ?_; k_extra "memr9")
    | (with_reducible refine List.mem_append_right _ ?_; k_extra "memr9")
    | (with_reducible refine List.mem_append_left _ ?_; k_extra "memr9")
  k_with "mem9" => first
    | k_extra "memr9"
    | assumption
    | k_mem
    | (simp only [List.mem_cons, List.mem_append] at *; simp only [*, true_or, or_true])
    | grind
  k_with "sub8" => first
    | exact List.forall_mem_nil _
    | (refine' List.forall_mem_cons.mpr ⟨?m8, ?_⟩; (case m8 => k_mem); k_extra "sub8")
    | (refine' List.forall_mem_append.mpr ⟨?m8, ?_⟩; (case m8 => k_extra "sub8"); k_extra "sub8")
    | (intro p8 h8; k_mem)
  k_with "sub9" => first
    | k_extra "sub8"
    | (intro p9 h9; first
      | exact h9
      | (simp only [List.mem_cons, List.mem_append] at h9 ⊢; grind))
  k_with "dat9" => repeat' (first
    | exact DatIn.str _ _
    | exact DatIn.int _ _
    | exact DatAll.nil
    | assumption
    | (refine' DatAll.cons ?_ ?_)
    | (refine' DatIn.tuple ?m9 ?_; (case m9 => k_extra "mem9"))
    | (refine' DatIn.list ?m9 ?_; (case m9 => k_extra "mem9"))
    | (refine' DatIn.mono ?s9 ?h9; (case h9 => assumption); (case s9 => k_extra "sub9")))
  k_with "and9" => first
    | ((fail_if_success (fail_if_success (rename _ ∧ _ => hc9))); refine foldP (fun G9 hG9 => ?_); (repeat' (rename _ ∧ _ => hc9; refine and_go hc9 (fun hc8 hc7 => ?_); clear hc9)); refine hG9 ?_; clear hG9 G9)
    | skip
  k_with "fold9" => ((fail_if_success (fail_if_success k_fold)); refine (let q9 := _; let e9 := _; (?_ : wpAny _ _ _ q9 e9 _)))
  k_with "ne9" => first
    | assumption
    | (refine' ne_all ?h9 ?s9; (case h9 => assumption); (case s9 => k_extra "sub9"))
    | (refine' ne_allT ?h9 ?s9; (case h9 => assumption); (case s9 => k_extra "sub9"))
  k_with "off9" => (
    refine' off_of ?_
    repeat' (first
    | exact offL_nil
    | (refine' offL_sub ?h9 ?s9; (case h9 => assumption); (case s9 => k_extra "sub9"))
    | (refine' offL_cons ?o9 ?_; (case o9 => k_extra "ne9"))
    | (refine' offL_app ?_ ?_)))
  k_with "split9" => first | exact Split.base | (refine Split.cons ?_; k_extra "split9") | (refine Split.app ?_; k_extra "split9")
  k_with "same9" => (intro z9 h1 h2 h3; (simp only [List.mem_cons, List.not_mem_nil, or_false, forall_eq_or_imp, forall_eq] at h2); (simp only [List.contains_cons, List.contains_nil, Bool.or_false, Bool.or_eq_false_iff, beq_eq_false_iff_ne, ne_eq] at h3); (simp [h1, h2, h3, kstB]; done))
  k_with "sameW9" => (intro z9 h2 h3; (simp only [List.mem_cons, List.not_mem_nil, or_false, forall_eq_or_imp, forall_eq] at h2); (simp only [List.contains_cons, List.contains_nil, Bool.or_false, Bool.or_eq_false_iff, beq_eq_false_iff_ne, ne_eq] at h3); (simp [h2, h3, kstB]; done))
  k_with "one9" => (first | exact List.forall_mem_nil _ | (refine' List.forall_mem_cons.mpr ⟨?a9, ?_⟩; (case a9 => with_unfolding_all rfl); k_extra "one9"))
  k_with "offE9" => ((try dsimp only); (repeat (refine' List.forall_mem_cons.mpr ⟨?o9, ?_⟩; (case o9 => ((try dsimp only); k_ne)))); (repeat' (rename _ ∧ _ => hc9; rcases hc9 with ⟨hc8, hc7⟩)); first | exact List.forall_mem_nil _ | assumption | exact lt_ne (by assumption) | exact gt_ne (by assumption))
  k_with "rot9" => repeat' (first | exact Rot.here | refine' Rot.next ?_)
  k_with "nes8" => repeat' (first | assumption | exact List.forall_mem_nil _ | (refine' List.forall_mem_cons.mpr ⟨?m8, ?_⟩; (case m8 => dsimp only; first | exact Nat.ne_of_gt (by assumption) | exact Nat.ne_of_lt (by assumption) | assumption | exact Ne.symm (by assumption) | k_ne)) | exact lt_ne (by assumption) | refine' List.forall_mem_append.mpr ⟨?_, ?_⟩)
  k_with "offs8" => repeat' (first | assumption | exact offL_nil | exact offL_swap (by assumption) | (refine' offL_cons ?m8 ?_; (case m8 => dsimp only; first | exact lt_ne (by assumption) | (refine' lt_ne2 ?A8 ?B8; (case B8 => assumption); (case A8 => assumption)) | k_extra "ne9")) | refine' offL_app ?_ ?_)
  k_with "sel9" => repeat' (first | exact Sel.base | (refine' Sel.old ?m9 ?_; (case m9 => assumption)) | (refine' Sel.cut ?m9 ?_; (case m9 => repeat (first | exact List.mem_cons_self | refine List.mem_cons_of_mem _ ?_))) | refine' Sel.keep ?_ | refine' Sel.app ?_)
  k_with "mems9" => repeat' (first | exact List.forall_mem_nil _ | (refine' List.forall_mem_cons.mpr ⟨?m9, ?_⟩; (case m9 => k_extra "mem9")))
  k_with "isd9" => repeat' (first | (refine' dat_cons ?m9 ?_; (case m9 => first | (intro _; k_mem) | (intro q9; exact absurd q9 (dict_no (by assumption))) | (intro q9; exact absurd q9 (by simp [isDat, instObj, dictOf, itR])))) | (refine' dat_app ?m9 ?_; (case m9 => k_extra "sub9")) | (refine' dat_end ?m9; (case m9 => k_extra "sub9")))
  k_with "~execs cons" => k_extra "fold9"
  k_with "~call builtin:isinstance" => (k_here; (with_reducible show wpAny _ _ (call _ [Value.ref _, Value.type _]) _ _ _); kit_cont; k_dflt kit_objs)
  k_with "~eval Call" => k_extra "fold9"
  k_with "~eval Compare" => k_extra "fold9"
  k_with "~eval BinOp" => k_extra "fold9"
  k_with "~eval Tuple" => k_extra "fold9"
  k_with "~eval List" => k_extra "fold9"
  k_with "~eval Subscript" => k_extra "fold9"
  k_with "~eval Attribute" => k_extra "fold9"
  k_with "~eval IfExp" => k_extra "fold9"
  k_with "lt9" => first
    | with_reducible assumption
    | exact cj0 (by with_reducible assumption)
    | exact cj1 (by with_reducible assumption)
    | exact cj2 (by with_reducible assumption)
    | exact cj3 (by with_reducible assumption)
    | exact cj4 (by with_reducible assumption)
    | exact cj5 (by with_reducible assumption)
    | exact cj6 (by with_reducible assumption)
    | exact cj7 (by with_reducible assumption)
    | exact cz1 (by with_reducible assumption)
    | exact cz2 (by with_reducible assumption)
    | exact cz3 (by with_reducible assumption)
    | exact cz4 (by with_reducible assumption)
    | exact cz5 (by with_reducible assumption)
    | exact cz6 (by with_reducible assumption)
    | exact cz7 (by with_reducible assumption)
    | fail "lt9"
  k_with "om9" => first
    | with_reducible assumption
    | exact Nat.le_of_ble_eq_true rfl
    | exact Ne.symm (by with_reducible assumption)
    | ((with_reducible show (_ : Nat) ≠ _); first | exact Nat.ne_of_lt (by k_extra "lt9") | exact Nat.ne_of_gt (by k_extra "lt9"))
    | ((with_reducible show (_ : Nat) < _); first
      | exact rm1 (by with_reducible assumption) (by exact rfl)
      | exact rm0 (by with_reducible assumption)
      | exact rn1 (by with_reducible assumption) (by exact rfl)
      | exact rn3 (by with_reducible assumption) (by exact rfl)
      | exact rf2 (by with_reducible assumption) (by with_reducible assumption) (by exact rfl)
      | exact rm3 (by with_reducible assumption) (by exact rfl)
      | exact uf2 (by with_reducible assumption) (by with_reducible assumption) (by exact rfl)
      | exact um3 (by with_reducible assumption) (by exact rfl)
      | exact rf1 (by with_reducible assumption) (by with_reducible assumption) (by exact rfl)
      | exact rf3 (by with_reducible assumption) (by with_reducible assumption) (by exact rfl)
      | exact uf3 (by with_reducible assumption) (by with_reducible assumption) (by exact rfl)
      | k_extra "lt9")
    | fail "om9"
  k_with "~@k_all" => first | assumption | exact lt_ne (by assumption) | exact gt_ne (by assumption) | (refine' List.forall_mem_append.mpr ⟨?q9a, ?q9b⟩; (case q9a => k_all); (case q9b => k_all))
  k_with "~call builtin:len" => (k_here; (with_reducible show wpAny _ _ (call (Value.builtin "len") [Value.ref _]) _ _ _); (refine KM.len_K (by k_asm) (by k_dflt k_mem) rfl (by simp; omega) ?_))
  k_with "~@k_room" => ((try simp only [depth_mark, depth_under_make, depth_under_kw, depth_in1, depth_deeper, depth_caller]); (try dsimp only [ktrTop]); omega)
  k_with "~@k_units" => ((have hcL9 := cLine_is); (try simp only [units_in1, units_deeper, Around.mark_units, units_caller]); (try dsimp only [ktrTop]); omega)
  k_with "~exec While Compare cons nil" => k_extra "while!"
  k_with "~pyIter ref" => k_extra "iter!"
  k_with "~call ref" => k_extra "call!"
  k_with "~exec For Name Call cons nil" => (k_extra "for!"; k_here; (rename Fr _ _ _ _ => z9lF'); (with_unfolding_all refine' For_invVF z9lF' ?q9k1 ?q9k2 ?_; (case q9k1 => exact rfl); (case q9k2 => exact rfl); k_whole))
  k_with "~exec For Name Name cons nil" => (k_extra "for!"; k_here; (rename Fr _ _ _ _ => z9lF'); (with_unfolding_all refine' For_invVF z9lF' ?q9k1 ?q9k2 ?_; (case q9k1 => exact rfl); (case q9k2 => exact rfl); k_whole))
  k_with "~@k_mem" => first | assumption | exact List.mem_cons_self | (refine List.mem_cons_of_mem _ ?_; k_mem) | (refine List.mem_append_left _ ?_; k_mem) | (refine List.mem_append_right _ ?_; k_mem)
  k_with "~subscriptTail Name Slice ref ref" => (k_here; (with_reducible show wpAny _ _ (subscriptTail _ (PySem.Expr.Slice _ none none _) (Value.ref _) (Value.ref _)) _ _ _); k_dflt (refine' tup_from ?q9F ?q9N ?q9b ?q9o ?q9l ?q9e ?_ ?q9s ?q9t ?q9z; (case q9F => k_asm); (case q9N => k_asm); (case q9b => k_mem); (case q9o => decide); (case q9l => exact Nat.le_of_ble_eq_true rfl); (case q9e => kl_lit); (case q9s => with_unfolding_all rfl); (case q9t => (intro _; with_unfolding_all rfl)); (case q9z => (simp only [List.length_cons, List.length_nil, sizeLine_eq]; omega))); intro z9D' z9h' z9F' z9N' z9l1; (try k_lt z9l1); (try k_sweep))
  k_with "~exec For Name Subscript cons nil" => (k_here; (rename Fr _ _ _ _ => z9lF'); (with_unfolding_all refine' For_turns z9lF' ?_; k_whole))
  k_with "~exec For Name Name cons nil" => (k_extra "turns!"; k_here; (rename Fr _ _ _ _ => z9lF'); (with_unfolding_all refine' For_turns z9lF' ?_; k_whole))
  k_with "~pyIter ref" => (k_here; (with_reducible show wpAny _ _ (pyIter (Value.ref _)) (fun it s₂ => TurnsAt _ _ _ _ _ _ _ _ _ it s₂) _ _); (rename Fr _ _ _ _ => z9lF'); (rename News _ _ _ _ => z9lN'); k_dflt (refine' iter_tupTurns ?q9h z9lF' z9lN' ?q9m ?q9c ?q9d ?_; (case q9h => with_unfolding_all rfl); (case q9m => k_mem); (case q9c => exact rfl); (case q9d => exact rfl)); clear z9lF'; intro z9i' z9l1; (try k_lt z9l1))
  k_with "~pyIter ref" => (k_here; (with_reducible show wpAny _ _ (pyIter (Value.ref _)) (fun it s₂ => TurnsAt _ _ _ _ _ _ _ _ _ it s₂) _ _); (rename Fr _ _ _ _ => z9lF'); (rename News _ _ _ _ => z9lN'); k_dflt (refine' iter_listTurns ?q9h z9lF' z9lN' ?q9m ?q9c ?q9d ?_; (case q9h => with_unfolding_all rfl); (case q9m => k_mem); (case q9c => exact rfl); (case q9d => exact rfl)); clear z9lF'; intro z9i' z9l1; (try k_lt z9l1))
  k_with "~UnrEndW" => ((rename Fr _ _ _ _ => z9lF'); (rename News _ _ _ _ => z9lN'); (refine' unrEnd z9lF' z9lN' ?q9c9 ?q9o9 ⟨?q9k9, ?_⟩; (case q9c9 => repeat' (first | exact Cut.base | refine' Cut.cons ?_)); (case q9o9 => k_extra "offE9"); (case q9k9 => k_subL)); clear z9lF' z9lN')
  k_with "~@size_fits" => (simp only [List.size_toArray, List.length_append, List.length_cons, List.length_nil, sizeLine_eq]; omega)
  k_with "~call builtin:list.extend" => (k_here; (with_reducible show wpAny _ _ (call (Value.builtin _) [Value.ref _, Value.ref _]) _ _ _); k_dflt (refine' ext_list ?q9F ?q9N ?q9b ?q9ne ?q9U ?q9z ?_; (case q9F => k_asm); (case q9N => k_asm); (case q9b => k_mem); (case q9U => k_upd); (case q9ne => exact List.cons_ne_nil _ _); (case q9z => (simp only [List.length_append, List.length_cons, List.length_nil]; omega))); intro z9h' z9F' z9N'; (try k_sweep))
  k_with "~call builtin:list.pop" => (k_here; (with_reducible show wpAny _ _ (call (Value.builtin _) [Value.ref _]) _ _ _); k_dflt (refine' pop_list ?q9F ?q9N ?q9U ?q9z ?_; (case q9F => k_asm); (case q9N => k_asm); (case q9U => k_upd); (case q9z => omega)); intro z9h' z9F' z9N'; (try k_sweep))
  k_with "~exec Raise some none" => (k_here; refine raise_fault (by rfl) ?_)
  k_with "~call ref" => ((with_reducible show wpAny _ _ (call (Value.ref 44) [_]) _ _ _); k_here; k_dflt (refine' call_fault ?q9k1 ?q9k2 ?q9k3 ?_; (case q9k1 => k_asm); (case q9k2 => k_asm); (case q9k3 => k_asm); intro z9e' z9t' z9h' z9F' z9N' z9l1 z9l2 z9l3 z9n' z9k'; (try k_lt z9l1); (try k_lt2 z9l2); (try k_lt z9l3); (try k_sweep); k_enter))
  k_with "~getMethod type:Exception" => (k_here; (with_reducible refine' method_type ?q9F ?q9X exc_kind exc_stub ?q9e ?q9h ?_); k_dflt ((case q9F => k_asm); (case q9X => k_asm); (case q9e => k_is); (case q9h => k_handed)))
  k_with "~call builtin:Exception.__init__" => (k_here; k_dflt (refine' exc_init ?q9F ?q9X ?q9N ?q9U ?_; (case q9F => k_asm); (case q9X => k_asm); (case q9N => k_asm); (case q9U => k_updF); intro z9t' z9h' z9F' z9N'; (try dsimp only at z9N'); (try k_sweep)))
  k_with "~setAttr ref" => ((with_reducible show wpAny _ _ (setAttr (Value.ref _) (PySem.Str.ofString "text") _) _ _ _); k_here; k_dflt (refine' set_text ?q9T ?q9F ?q9X ?q9N ?q9U ?_; (case q9T => rfl); (case q9F => k_asm); (case q9X => k_asm); (case q9N => k_asm); (case q9U => k_updF); intro z9d' z9h' z9tk' z9F' z9N'; (try dsimp only at z9N'); (try k_sweep)))
  k_with "~exec Raise some none" => (k_here; k_dflt (refine raise_fault' (by rfl) ?_))
  k_with "~Raises44" => (k_here; k_dflt (refine' raises_of ?q9F ?q9X ?q9N ?q9m ?_; (case q9F => k_asm); (case q9X => k_asm); (case q9N => k_asm); (case q9m => k_mem)))
  k_with "~leaving ref" => (k_here; k_dflt (refine' leave_newB ?q9k1 ?q9k2 ?q9k3 ?q9k4 ?_; (case q9k1 => assumption); (case q9k2 => assumption); (case q9k3 => assumption); (case q9k4 => k_mem); k_whole; intro z9h' z9R' z9U'; (try dsimp only at z9R' z9U' ⊢)))
  k_with "~compareOp NotIn str ref" => (k_here; k_dflt (first
    | refine kdg_notin (knd := PySem.strKind _ _) (by k_asm) (by k_mem) (by assumption) (by assumption) (strKind_is _ _ _ _) true (by rw [‹valueAt _ _ = some _›]; rfl) ?_
    | refine kdg_notin (knd := PySem.strKind _ _) (by k_asm) (by k_mem) (by assumption) (by assumption) (strKind_is _ _ _ _) false (by rw [‹valueAt _ _ = none›]; rfl) ?_); (try dsimp only [Bool.not_true, Bool.not_false]))
  k_with "~compareOp In str ref" => (k_here; k_dflt (first
    | refine kda_in (knd := PySem.strKind _ _) (by k_asm) (by k_mem) (by assumption) (by assumption) (strKind_is _ _ _ _) true (by rw [‹valueAt _ _ = some _›]; rfl) ?_
    | refine kda_in (knd := PySem.strKind _ _) (by k_asm) (by k_mem) (by assumption) (by assumption) (strKind_is _ _ _ _) false (by rw [‹valueAt _ _ = none›]; rfl) ?_))
  k_with "~subscriptTail" => (k_here; k_dflt ((with_reducible show wpAny _ _ (subscriptTail _ _ (Value.ref _) (Value.str _ _)) _ _ _); refine kda_item (knd := PySem.strKind _ _) (by k_asm) (by k_mem) (by assumption) (strKind_is _ _ _ _) (by assumption) ?_))
  trivial
/-- a dict of names stands in the ledger -/
noncomputable def DicAt (w : World) (S : List (Addr × Obj)) (d : Addr) (kvs : List (Str × Value)) : Prop := ∃ o : Obj, (d, o) ∈ S ∧ o.IsDictOf (PySem.strKind PR w) kvs ∧ (d == sysModules) = false
theorem DicAt.mono {w : World} {S S' : List (Addr × Obj)} {d : Addr} {kvs : List (Str × Value)} (H : DicAt w S d kvs) (s : ∀ p ∈ S, p ∈ S') : DicAt w S' d kvs := by
  obtain ⟨o, a, b, c⟩ := H
  exact ⟨o, s _ a, b, c⟩
theorem symbol_of (w : World) (sc sy lim gv op sp : Addr) (hi : Int) (S : List (Addr × Obj)) (kvs : List (Str × Value)) (nm : Str) (tn : Tok) (a : Addr) (hsc : ScoAt w S sc sy lim gv op sp hi) (hsy : DicAt w S sy kvs) (hk : valueAt kvs nm = some (.ref a)) :
    Tel w 133 [.ref sc, .str nm tn] 5 S (fun r news' => r = .ref a ∧ news' = S) False := by
  have lp : Challenge.rw_pq0356_01.foot = Challenge.rw_pq0356_01.foot ∧ hd.heap_39 = hd.heap_39 := by k_fill; exact ⟨rfl, rfl⟩
  clear lp
  intro mean mg mb dp un gd cn cs a' ccd cl outer A₀ base h₀ L m s Q E B F X N T hk hdp hun hret hexc
  obtain ⟨d, u1, u2, u3, u4, u5, u6, u7, uh, m1, m2⟩ := hsc
  obtain ⟨o, hso, hdo, lo⟩ := hsy
  have N2 : News h₀ L s.heap ((sc, instObj 122 d) :: (d, scoD w sy lim gv op sp hi u1 u2 u3 u4 u5 u6 u7 uh) :: S) := news_sub N (by k_extra "sub9")
  clear N
  refine wpAny_call ?_
  k_dflt ktr_enter
  k_steps
  all_goals exact hret _ _ _ _ (by assumption) (news_sub (by assumption) (by k_extra "sub9")) ⟨rfl, rfl⟩
theorem reg_words_Nam : True := by
  k_with_none
  w_top off
  k_with "for!" => fail "no word"
  k_with "memr9" => first
    | with_reducible assumption
    | with_reducible exact List.mem_cons_self
    | (with_reducible refine List.mem_cons_of_mem _ ?_; k_extra "memr9")
    | (with_reducible refine List.mem_append_right _ ?_; k_extra "memr9")
    | (with_reducible refine List.mem_append_left _ ?_; k_extra "memr9")
  k_with "mem9" => first
    | k_extra "memr9"
    | assumption
    | k_mem
    | (simp only [List.mem_cons, List.mem_append] at *; simp only [*, true_or, or_true])
    | grind
  k_with "sub8" => first
    | exact List.forall_mem_nil _
    | (refine' List.forall_mem_cons.mpr ⟨?m8, ?_⟩; (case m8 => k_mem); k_extra "sub8")
    | (refine' List.forall_mem_append.mpr ⟨?m8, ?_⟩; (case m8 => k_extra "sub8"); k_extra "sub8")
    | (intro p8 h8; k_mem)
  k_with "sub9" => first
    | k_extra "sub8"
    | (intro p9 h9; first
      | exact h9
      | (simp only [List.mem_cons, List.mem_append] at h9 ⊢; grind))
  k_with "dat9" => repeat' (first
    | exact DatIn.str _ _
    | exact DatIn.int _ _
    | exact DatAll.nil
    | assumption
    | (refine' DatAll.cons ?_ ?_)
    | (refine' DatIn.tuple ?m9 ?_; (case m9 => k_extra "mem9"))
    | (refine' DatIn.list ?m9 ?_; (case m9 => k_extra "mem9"))
    | (refine' DatIn.mono ?s9 ?h9; (case h9 => assumption); (case s9 => k_extra "sub9")))
  k_with "and9" => first
    | ((fail_if_success (fail_if_success (rename _ ∧ _ => hc9))); refine foldP (fun G9 hG9 => ?_); (repeat' (rename _ ∧ _ => hc9; refine and_go hc9 (fun hc8 hc7 => ?_); clear hc9)); refine hG9 ?_; clear hG9 G9)
    | skip
  k_with "fold9" => ((fail_if_success (fail_if_success k_fold)); refine (let q9 := _; let e9 := _; (?_ : wpAny _ _ _ q9 e9 _)))
  k_with "ne9" => first
    | assumption
    | (refine' ne_all ?h9 ?s9; (case h9 => assumption); (case s9 => k_extra "sub9"))
    | (refine' ne_allT ?h9 ?s9; (case h9 => assumption); (case s9 => k_extra "sub9"))
  k_with "off9" => (
    refine' off_of ?_
    repeat' (first
    | exact offL_nil
    | (refine' offL_sub ?h9 ?s9; (case h9 => assumption); (case s9 => k_extra "sub9"))
    | (refine' offL_cons ?o9 ?_; (case o9 => k_extra "ne9"))
    | (refine' offL_app ?_ ?_)))
  k_with "split9" => first | exact Split.base | (refine Split.cons ?_; k_extra "split9") | (refine Split.app ?_; k_extra "split9")
  k_with "same9" => (intro z9 h1 h2 h3; (simp only [List.mem_cons, List.not_mem_nil, or_false, forall_eq_or_imp, forall_eq] at h2); (simp only [List.contains_cons, List.contains_nil, Bool.or_false, Bool.or_eq_false_iff, beq_eq_false_iff_ne, ne_eq] at h3); (simp [h1, h2, h3, kstB]; done))
  k_with "sameW9" => (intro z9 h2 h3; (simp only [List.mem_cons, List.not_mem_nil, or_false, forall_eq_or_imp, forall_eq] at h2); (simp only [List.contains_cons, List.contains_nil, Bool.or_false, Bool.or_eq_false_iff, beq_eq_false_iff_ne, ne_eq] at h3); (simp [h2, h3, kstB]; done))
  k_with "one9" => (first | exact List.forall_mem_nil _ | (refine' List.forall_mem_cons.mpr ⟨?a9, ?_⟩; (case a9 => with_unfolding_all rfl); k_extra "one9"))
  k_with "offE9" => ((try dsimp only); (repeat (refine' List.forall_mem_cons.mpr ⟨?o9, ?_⟩; (case o9 => ((try dsimp only); k_ne)))); (repeat' (rename _ ∧ _ => hc9; rcases hc9 with ⟨hc8, hc7⟩)); first | exact List.forall_mem_nil _ | assumption | exact lt_ne (by assumption) | exact gt_ne (by assumption))
  k_with "rot9" => repeat' (first | exact Rot.here | refine' Rot.next ?_)
  k_with "nes8" => repeat' (first | assumption | exact List.forall_mem_nil _ | (refine' List.forall_mem_cons.mpr ⟨?m8, ?_⟩; (case m8 => dsimp only; first | exact Nat.ne_of_gt (by assumption) | exact Nat.ne_of_lt (by assumption) | assumption | exact Ne.symm (by assumption) | k_ne)) | exact lt_ne (by assumption) | refine' List.forall_mem_append.mpr ⟨?_, ?_⟩)
  k_with "offs8" => repeat' (first | assumption | exact offL_nil | exact offL_swap (by assumption) | (refine' offL_cons ?m8 ?_; (case m8 => dsimp only; first | exact lt_ne (by assumption) | (refine' lt_ne2 ?A8 ?B8; (case B8 => assumption); (case A8 => assumption)) | k_extra "ne9")) | refine' offL_app ?_ ?_)
  k_with "sel9" => repeat' (first | exact Sel.base | (refine' Sel.old ?m9 ?_; (case m9 => assumption)) | (refine' Sel.cut ?m9 ?_; (case m9 => repeat (first | exact List.mem_cons_self | refine List.mem_cons_of_mem _ ?_))) | refine' Sel.keep ?_ | refine' Sel.app ?_)
  k_with "mems9" => repeat' (first | exact List.forall_mem_nil _ | (refine' List.forall_mem_cons.mpr ⟨?m9, ?_⟩; (case m9 => k_extra "mem9")))
  k_with "isd9" => repeat' (first | (refine' dat_cons ?m9 ?_; (case m9 => first | (intro _; k_mem) | (intro q9; exact absurd q9 (dict_no (by assumption))) | (intro q9; exact absurd q9 (by simp [isDat, instObj, dictOf, itR])))) | (refine' dat_app ?m9 ?_; (case m9 => k_extra "sub9")) | (refine' dat_end ?m9; (case m9 => k_extra "sub9")))
  k_with "~execs cons" => k_extra "fold9"
  k_with "~call builtin:isinstance" => (k_here; (with_reducible show wpAny _ _ (call _ [Value.ref _, Value.type _]) _ _ _); kit_cont; k_dflt kit_objs)
  k_with "~eval Call" => k_extra "fold9"
  k_with "~eval Compare" => k_extra "fold9"
  k_with "~eval BinOp" => k_extra "fold9"
  k_with "~eval Tuple" => k_extra "fold9"
  k_with "~eval List" => k_extra "fold9"
  k_with "~eval Subscript" => k_extra "fold9"
  k_with "~eval Attribute" => k_extra "fold9"
  k_with "~eval IfExp" => k_extra "fold9"
  k_with "lt9" => first
    | with_reducible assumption
    | exact cj0 (by with_reducible assumption)
    | exact cj1 (by with_reducible assumption)
    | exact cj2 (by with_reducible assumption)
    | exact cj3 (by with_reducible assumption)
    | exact cj4 (by with_reducible assumption)
    | exact cj5 (by with_reducible assumption)
    | exact cj6 (by with_reducible assumption)
    | exact cj7 (by with_reducible assumption)
    | exact cz1 (by with_reducible assumption)
    | exact cz2 (by with_reducible assumption)
    | exact cz3 (by with_reducible assumption)
    | exact cz4 (by with_reducible assumption)
    | exact cz5 (by with_reducible assumption)
    | exact cz6 (by with_reducible assumption)
    | exact cz7 (by with_reducible assumption)
    | fail "lt9"
  k_with "om9" => first
    | with_reducible assumption
    | exact Nat.le_of_ble_eq_true rfl
    | exact Ne.symm (by with_reducible assumption)
    | ((with_reducible show (_ : Nat) ≠ _); first | exact Nat.ne_of_lt (by k_extra "lt9") | exact Nat.ne_of_gt (by k_extra "lt9"))
    | ((with_reducible show (_ : Nat) < _); first
      | exact rm1 (by with_reducible assumption) (by exact rfl)
      | exact rm0 (by with_reducible assumption)
      | exact rn1 (by with_reducible assumption) (by exact rfl)
      | exact rn3 (by with_reducible assumption) (by exact rfl)
      | exact rf2 (by with_reducible assumption) (by with_reducible assumption) (by exact rfl)
      | exact rm3 (by with_reducible assumption) (by exact rfl)
      | exact uf2 (by with_reducible assumption) (by with_reducible assumption) (by exact rfl)
      | exact um3 (by with_reducible assumption) (by exact rfl)
      | exact rf1 (by with_reducible assumption) (by with_reducible assumption) (by exact rfl)
      | exact rf3 (by with_reducible assumption) (by with_reducible assumption) (by exact rfl)
      | exact uf3 (by with_reducible assumption) (by with_reducible assumption) (by exact rfl)
      | k_extra "lt9")
    | fail "om9"
  k_with "~@k_all" => first | assumption | exact lt_ne (by assumption) | exact gt_ne (by assumption) | (refine' List.forall_mem_append.mpr ⟨?q9a, ?q9b⟩; (case q9a => k_all); (case q9b => k_all))
  k_with "~call builtin:len" => (k_here; (with_reducible show wpAny _ _ (call (Value.builtin "len") [Value.ref _]) _ _ _); (refine KM.len_K (by k_asm) (by k_dflt k_mem) rfl (by simp; omega) ?_))
  k_with "~@k_room" => ((try simp only [depth_mark, depth_under_make, depth_under_kw, depth_in1, depth_deeper, depth_caller]); (try dsimp only [ktrTop]); omega)
  k_with "~@k_units" => ((have hcL9 := cLine_is); (try simp only [units_in1, units_deeper, Around.mark_units, units_caller]); (try dsimp only [ktrTop]); omega)
  k_with "~exec While Compare cons nil" => k_extra "while!"
  k_with "~pyIter ref" => k_extra "iter!"
  k_with "~call ref" => k_extra "call!"
  k_with "~exec For Name Call cons nil" => (k_extra "for!"; k_here; (rename Fr _ _ _ _ => z9lF'); (with_unfolding_all refine' For_invVF z9lF' ?q9k1 ?q9k2 ?_; (case q9k1 => exact rfl); (case q9k2 => exact rfl); k_whole))
  k_with "~exec For Name Name cons nil" => (k_extra "for!"; k_here; (rename Fr _ _ _ _ => z9lF'); (with_unfolding_all refine' For_invVF z9lF' ?q9k1 ?q9k2 ?_; (case q9k1 => exact rfl); (case q9k2 => exact rfl); k_whole))
  k_with "~@k_mem" => first | assumption | exact List.mem_cons_self | (refine List.mem_cons_of_mem _ ?_; k_mem) | (refine List.mem_append_left _ ?_; k_mem) | (refine List.mem_append_right _ ?_; k_mem)
  k_with "~subscriptTail Name Slice ref ref" => (k_here; (with_reducible show wpAny _ _ (subscriptTail _ (PySem.Expr.Slice _ none none _) (Value.ref _) (Value.ref _)) _ _ _); k_dflt (refine' tup_from ?q9F ?q9N ?q9b ?q9o ?q9l ?q9e ?_ ?q9s ?q9t ?q9z; (case q9F => k_asm); (case q9N => k_asm); (case q9b => k_mem); (case q9o => decide); (case q9l => exact Nat.le_of_ble_eq_true rfl); (case q9e => kl_lit); (case q9s => with_unfolding_all rfl); (case q9t => (intro _; with_unfolding_all rfl)); (case q9z => (simp only [List.length_cons, List.length_nil, sizeLine_eq]; omega))); intro z9D' z9h' z9F' z9N' z9l1; (try k_lt z9l1); (try k_sweep))
  k_with "~exec For Name Subscript cons nil" => (k_here; (rename Fr _ _ _ _ => z9lF'); (with_unfolding_all refine' For_turns z9lF' ?_; k_whole))
  k_with "~exec For Name Name cons nil" => (k_extra "turns!"; k_here; (rename Fr _ _ _ _ => z9lF'); (with_unfolding_all refine' For_turns z9lF' ?_; k_whole))
  k_with "~pyIter ref" => (k_here; (with_reducible show wpAny _ _ (pyIter (Value.ref _)) (fun it s₂ => TurnsAt _ _ _ _ _ _ _ _ _ it s₂) _ _); (rename Fr _ _ _ _ => z9lF'); (rename News _ _ _ _ => z9lN'); k_dflt (refine' iter_tupTurns ?q9h z9lF' z9lN' ?q9m ?q9c ?q9d ?_; (case q9h => with_unfolding_all rfl); (case q9m => k_mem); (case q9c => exact rfl); (case q9d => exact rfl)); clear z9lF'; intro z9i' z9l1; (try k_lt z9l1))
  k_with "~pyIter ref" => (k_here; (with_reducible show wpAny _ _ (pyIter (Value.ref _)) (fun it s₂ => TurnsAt _ _ _ _ _ _ _ _ _ it s₂) _ _); (rename Fr _ _ _ _ => z9lF'); (rename News _ _ _ _ => z9lN'); k_dflt (refine' iter_listTurns ?q9h z9lF' z9lN' ?q9m ?q9c ?q9d ?_; (case q9h => with_unfolding_all rfl); (case q9m => k_mem); (case q9c => exact rfl); (case q9d => exact rfl)); clear z9lF'; intro z9i' z9l1; (try k_lt z9l1))
  k_with "~UnrEndW" => ((rename Fr _ _ _ _ => z9lF'); (rename News _ _ _ _ => z9lN'); (refine' unrEnd z9lF' z9lN' ?q9c9 ?q9o9 ⟨?q9k9, ?_⟩; (case q9c9 => repeat' (first | exact Cut.base | refine' Cut.cons ?_)); (case q9o9 => k_extra "offE9"); (case q9k9 => k_subL)); clear z9lF' z9lN')
  k_with "~@size_fits" => (simp only [List.size_toArray, List.length_append, List.length_cons, List.length_nil, sizeLine_eq]; omega)
  k_with "~call builtin:list.extend" => (k_here; (with_reducible show wpAny _ _ (call (Value.builtin _) [Value.ref _, Value.ref _]) _ _ _); k_dflt (refine' ext_list ?q9F ?q9N ?q9b ?q9ne ?q9U ?q9z ?_; (case q9F => k_asm); (case q9N => k_asm); (case q9b => k_mem); (case q9U => k_upd); (case q9ne => exact List.cons_ne_nil _ _); (case q9z => (simp only [List.length_append, List.length_cons, List.length_nil]; omega))); intro z9h' z9F' z9N'; (try k_sweep))
  k_with "~call builtin:list.pop" => (k_here; (with_reducible show wpAny _ _ (call (Value.builtin _) [Value.ref _]) _ _ _); k_dflt (refine' pop_list ?q9F ?q9N ?q9U ?q9z ?_; (case q9F => k_asm); (case q9N => k_asm); (case q9U => k_upd); (case q9z => omega)); intro z9h' z9F' z9N'; (try k_sweep))
  k_with "~exec Raise some none" => (k_here; refine raise_fault (by rfl) ?_)
  k_with "~call ref" => ((with_reducible show wpAny _ _ (call (Value.ref 44) [_]) _ _ _); k_here; k_dflt (refine' call_fault ?q9k1 ?q9k2 ?q9k3 ?_; (case q9k1 => k_asm); (case q9k2 => k_asm); (case q9k3 => k_asm); intro z9e' z9t' z9h' z9F' z9N' z9l1 z9l2 z9l3 z9n' z9k'; (try k_lt z9l1); (try k_lt2 z9l2); (try k_lt z9l3); (try k_sweep); k_enter))
  k_with "~getMethod type:Exception" => (k_here; (with_reducible refine' method_type ?q9F ?q9X exc_kind exc_stub ?q9e ?q9h ?_); k_dflt ((case q9F => k_asm); (case q9X => k_asm); (case q9e => k_is); (case q9h => k_handed)))
  k_with "~call builtin:Exception.__init__" => (k_here; k_dflt (refine' exc_init ?q9F ?q9X ?q9N ?q9U ?_; (case q9F => k_asm); (case q9X => k_asm); (case q9N => k_asm); (case q9U => k_updF); intro z9t' z9h' z9F' z9N'; (try dsimp only at z9N'); (try k_sweep)))
  k_with "~setAttr ref" => ((with_reducible show wpAny _ _ (setAttr (Value.ref _) (PySem.Str.ofString "text") _) _ _ _); k_here; k_dflt (refine' set_text ?q9T ?q9F ?q9X ?q9N ?q9U ?_; (case q9T => rfl); (case q9F => k_asm); (case q9X => k_asm); (case q9N => k_asm); (case q9U => k_updF); intro z9d' z9h' z9tk' z9F' z9N'; (try dsimp only at z9N'); (try k_sweep)))
  k_with "~exec Raise some none" => (k_here; k_dflt (refine raise_fault' (by rfl) ?_))
  k_with "~Raises44" => (k_here; k_dflt (refine' raises_of ?q9F ?q9X ?q9N ?q9m ?_; (case q9F => k_asm); (case q9X => k_asm); (case q9N => k_asm); (case q9m => k_mem)))
  k_with "~leaving ref" => (k_here; k_dflt (refine' leave_newB ?q9k1 ?q9k2 ?q9k3 ?q9k4 ?_; (case q9k1 => assumption); (case q9k2 => assumption); (case q9k3 => assumption); (case q9k4 => k_mem); k_whole; intro z9h' z9R' z9U'; (try dsimp only at z9R' z9U' ⊢)))
  k_with "~compareOp NotIn str ref" => (k_here; k_dflt (first
    | refine kdg_notin (knd := PySem.strKind _ _) (by k_asm) (by k_mem) (by assumption) (by assumption) (strKind_is _ _ _ _) true (by rw [‹valueAt _ _ = some _›]; rfl) ?_
    | refine kdg_notin (knd := PySem.strKind _ _) (by k_asm) (by k_mem) (by assumption) (by assumption) (strKind_is _ _ _ _) false (by rw [‹valueAt _ _ = none›]; rfl) ?_); (try dsimp only [Bool.not_true, Bool.not_false]))
  k_with "~compareOp In str ref" => (k_here; k_dflt (first
    | refine kda_in (knd := PySem.strKind _ _) (by k_asm) (by k_mem) (by assumption) (by assumption) (strKind_is _ _ _ _) true (by rw [‹valueAt _ _ = some _›]; rfl) ?_
    | refine kda_in (knd := PySem.strKind _ _) (by k_asm) (by k_mem) (by assumption) (by assumption) (strKind_is _ _ _ _) false (by rw [‹valueAt _ _ = none›]; rfl) ?_))
  k_with "~subscriptTail" => (k_here; k_dflt ((with_reducible show wpAny _ _ (subscriptTail _ _ (Value.ref _) (Value.str _ _)) _ _ _); refine kda_item (knd := PySem.strKind _ _) (by k_asm) (by k_mem) (by assumption) (strKind_is _ _ _ _) (by assumption) ?_))
  trivial
theorem Tel.mono {w : World} {f : Addr} {vs : List Value} {fr fr' : Nat} {news : List (Addr × Obj)} {P P' : Value → List (Addr × Obj) → Prop} {X X' : Prop} (C : Tel w f vs fr news P X) (hf : fr ≤ fr')
    (hP : ∀ r n, P r n → ∃ n', (∀ p ∈ n', p ∈ n) ∧ P' r n') (hX : X → X') : Tel w f vs fr' news P' X' := by
  intro mean mg mb dp un gd cn cs a ccd cl outer A₀ base h₀ L m s Q E B F X N T hk hdp hun hret hexc
  refine C _ _ _ _ _ _ _ _ _ _ _ _ _ _ _ _ _ _ _ _ B F X N T hk (by omega) (by omega) ?_ fun x => hexc (hX x)
  intro r n h tk F' N' p
  obtain ⟨n', s', p'⟩ := hP r n p
  exact hret r n' h tk F' (news_sub N' s') p'
/-- a symbol's own dict -/
noncomputable abbrev symD (w : World) (nm : Str) (use : String) (val : Value) (dm : Addr) (t : Fin 13 → Tok) (k : Nat) : Obj :=
  dictOf [en w "name" (t 0) (.str nm (t 9)), en w "kind" (t 1) (.int 1 (t 10)), en w "length" (t 2) (.int 0 (t 11)), en w "dims" (t 3) (.ref dm), en w "use" (t 4) (.str (Str.ofString use) (t 12)), en w "is_dummy" (t 5) (.bool false), en w "value" (t 6) val, en w "common" (t 7) .none, en w "is_saved" (t 8) (.bool false)] k
noncomputable def SymAt (w : World) (S : List (Addr × Obj)) (a : Addr) (nm : Str) (use : String) (val : Value) : Prop := ∃ d dm t, (a, instObj 324 d) ∈ S ∧ (d, symD w nm use val dm t 9) ∈ S
theorem SymAt.mono {w : World} {S S' : List (Addr × Obj)} {a : Addr} {nm : Str} {use : String} {val : Value} (H : SymAt w S a nm use val) (s : ∀ p ∈ S, p ∈ S') : SymAt w S' a nm use val := by
  obtain ⟨d, dm, t, a, b⟩ := H
  exact ⟨d, dm, t, s _ a, s _ b⟩
theorem name_X (w : World) (sc sy lim gv op sp : Addr) (hi : Int) (S : List (Addr × Obj)) (kg : List (Str × Value)) (nm : Str) (tn : Tok) (v : Value) (hsc : ScoAt w S sc sy lim gv op sp hi) (hg : DicAt w S gv kg) (hk : valueAt kg nm = some v) :
    Tel w 168 [.str nm tn, .ref sc] 5 S (fun r news' => r = v ∧ news' = S) False := by
  have lp : Challenge.rw_pq0356_01.foot = Challenge.rw_pq0356_01.foot ∧ hd.heap_39 = hd.heap_39 := by k_fill; exact ⟨rfl, rfl⟩
  clear lp
  intro mean mg mb dp un gd cn cs a' ccd cl outer A₀ base h₀ L m s Q E B F X N T hk hdp hun hret hexc
  obtain ⟨d, u1, u2, u3, u4, u5, u6, u7, uh, m1, m2⟩ := hsc
  obtain ⟨o, m3, hdo, lo⟩ := hg
  have N2 : News h₀ L s.heap ((sc, instObj 122 d) :: (d, scoD w sy lim gv op sp hi u1 u2 u3 u4 u5 u6 u7 uh) :: S) := news_sub N (by k_extra "sub9")
  clear N
  refine wpAny_call ?_
  k_dflt ktr_enter
  k_steps
  all_goals exact hret _ _ _ _ (by assumption) (news_sub (by assumption) (by k_extra "sub9")) ⟨rfl, rfl⟩
theorem name_Z (w : World) (sc sy lim gv op sp az : Addr) (hi : Int) (S : List (Addr × Obj)) (kg kvs : List (Str × Value)) (tn : Tok) (val : Value) (hsc : ScoAt w S sc sy lim gv op sp hi) (hg : DicAt w S gv kg) (hk : valueAt kg (nmS true) = none)
    (hsy : DicAt w S sy kvs) (hz : valueAt kvs (nmS true) = some (.ref az)) (hs : SymAt w S az (nmS true) "var" val) :
    Tel w 168 [.str (nmS true) tn, .ref sc] 7 S (fun r news' => ∃ tl, news' = tl ++ S ∧ OffL tl S ∧ DatIn news' r Ty.var.dat) False := by
  intro mean mg mb dp un gd cn cs a' ccd cl outer A₀ base h₀ L m s Q E B F X N T hk hdp hun hret hexc
  have hsy' := hsy
  have hsc' := hsc
  obtain ⟨d, u1, u2, u3, u4, u5, u6, u7, uh, m1, m2⟩ := hsc'
  obtain ⟨o, m3, hdo, lo⟩ := hg
  obtain ⟨ds, dm, t, m5, m6⟩ := hs
  have N2 : News h₀ L s.heap ((az, instObj 324 ds) :: (ds, symD w (nmS true) "var" val dm t 9) :: (sc, instObj 122 d) :: (d, scoD w sy lim gv op sp hi u1 u2 u3 u4 u5 u6 u7 uh) :: S) := news_sub N (by k_extra "sub9")
  clear N
  k_with "call!" => ((with_reducible show wpAny _ _ (call (Value.ref 133) _) _ _ _); refine Stop.out ?_)
  refine wpAny_call ?_
  k_dflt ktr_enter
  k_steps
  refine Stop.on ?_
  k_dflt (refine tel_go (by k_asm) (by k_asm) (by k_asm) (by k_asm) (by rfl) (by k_asm) (symbol_of w sc sy lim gv op sp hi _ kvs (nmS true) _ az (hsc.mono (by k_extra "sub9")) (hsy.mono (by k_extra "sub9")) hz) (by k_room) (by k_units) ?_ (fun h9 => h9.elim))
  rintro r9 news9 h9 tk9 F9 N9 ⟨rfl, rfl⟩
  k_steps
  k_extra "and9"
  refine hret _ (_ :: S) _ _ (by assumption) (news_sub (by assumption) (List.forall_mem_cons.mpr ⟨List.mem_cons_self, by k_extra "sub9"⟩)) ⟨[_], rfl, offL_swap (offL_cons ?o9 offL_nil), ?d9⟩
  case o9 => k_extra "ne9"
  case d9 => rw [Ty.dat]; k_extra "dat9"
theorem reg_words_Cst : True := by
  k_with_none
  w_top off
  k_with "for!" => fail "no word"
  k_with "memr9" => first
    | with_reducible assumption
    | with_reducible exact List.mem_cons_self
    | (with_reducible refine List.mem_cons_of_mem _ ?_; k_extra "memr9")
    | (with_reducible refine List.mem_append_right _ ?_; k_extra "memr9")
    | (with_reducible refine List.mem_append_left _ ?_; k_extra "memr9")
  k_with "mem9" => first
    | k_extra "memr9"
    | assumption
    | k_mem
    | (simp only [List.mem_cons, List.mem_append] at *; simp only [*, true_or, or_true])
    | grind
  k_with "sub8" => first
    | exact List.forall_mem_nil _
    | (refine' List.forall_mem_cons.mpr ⟨?m8, ?_⟩; (case m8 => k_mem); k_extra "sub8")
    | (refine' List.forall_mem_append.mpr ⟨?m8, ?_⟩; (case m8 => k_extra "sub8"); k_extra "sub8")
    | (intro p8 h8; k_mem)
  k_with "sub9" => first
    | k_extra "sub8"
    | (intro p9 h9; first
      | exact h9
      | (simp only [List.mem_cons, List.mem_append] at h9 ⊢; grind))
  k_with "dat9" => repeat' (first
    | exact DatIn.str _ _
    | exact DatIn.int _ _
    | exact DatAll.nil
    | assumption
    | (refine' DatAll.cons ?_ ?_)
    | (refine' DatIn.tuple ?m9 ?_; (case m9 => k_extra "mem9"))
    | (refine' DatIn.list ?m9 ?_; (case m9 => k_extra "mem9"))
    | (refine' DatIn.mono ?s9 ?h9; (case h9 => assumption); (case s9 => k_extra "sub9")))
  k_with "and9" => first
    | ((fail_if_success (fail_if_success (rename _ ∧ _ => hc9))); refine foldP (fun G9 hG9 => ?_); (repeat' (rename _ ∧ _ => hc9; refine and_go hc9 (fun hc8 hc7 => ?_); clear hc9)); refine hG9 ?_; clear hG9 G9)
    | skip
  k_with "fold9" => ((fail_if_success (fail_if_success k_fold)); refine (let q9 := _; let e9 := _; (?_ : wpAny _ _ _ q9 e9 _)))
  k_with "ne9" => first
    | assumption
    | (refine' ne_all ?h9 ?s9; (case h9 => assumption); (case s9 => k_extra "sub9"))
    | (refine' ne_allT ?h9 ?s9; (case h9 => assumption); (case s9 => k_extra "sub9"))
  k_with "off9" => (
    refine' off_of ?_
    repeat' (first
    | exact offL_nil
    | (refine' offL_sub ?h9 ?s9; (case h9 => assumption); (case s9 => k_extra "sub9"))
    | (refine' offL_cons ?o9 ?_; (case o9 => k_extra "ne9"))
    | (refine' offL_app ?_ ?_)))
  k_with "split9" => first | exact Split.base | (refine Split.cons ?_; k_extra "split9") | (refine Split.app ?_; k_extra "split9")
  k_with "same9" => (intro z9 h1 h2 h3; (simp only [List.mem_cons, List.not_mem_nil, or_false, forall_eq_or_imp, forall_eq] at h2); (simp only [List.contains_cons, List.contains_nil, Bool.or_false, Bool.or_eq_false_iff, beq_eq_false_iff_ne, ne_eq] at h3); (simp [h1, h2, h3, kstB]; done))
  k_with "sameW9" => (intro z9 h2 h3; (simp only [List.mem_cons, List.not_mem_nil, or_false, forall_eq_or_imp, forall_eq] at h2); (simp only [List.contains_cons, List.contains_nil, Bool.or_false, Bool.or_eq_false_iff, beq_eq_false_iff_ne, ne_eq] at h3); (simp [h2, h3, kstB]; done))
  k_with "one9" => (first | exact List.forall_mem_nil _ | (refine' List.forall_mem_cons.mpr ⟨?a9, ?_⟩; (case a9 => with_unfolding_all rfl); k_extra "one9"))
  k_with "offE9" => ((try dsimp only); (repeat (refine' List.forall_mem_cons.mpr ⟨?o9, ?_⟩; (case o9 => ((try dsimp only); k_ne)))); (repeat' (rename _ ∧ _ => hc9; rcases hc9 with ⟨hc8, hc7⟩)); first | exact List.forall_mem_nil _ | assumption | exact lt_ne (by assumption) | exact gt_ne (by assumption))
  k_with "rot9" => repeat' (first | exact Rot.here | refine' Rot.next ?_)
  k_with "nes8" => repeat' (first | assumption | exact List.forall_mem_nil _ | (refine' List.forall_mem_cons.mpr ⟨?m8, ?_⟩; (case m8 => dsimp only; first | exact Nat.ne_of_gt (by assumption) | exact Nat.ne_of_lt (by assumption) | assumption | exact Ne.symm (by assumption) | k_ne)) | exact lt_ne (by assumption) | refine' List.forall_mem_append.mpr ⟨?_, ?_⟩)
  k_with "offs8" => repeat' (first | assumption | exact offL_nil | exact offL_swap (by assumption) | (refine' offL_cons ?m8 ?_; (case m8 => dsimp only; first | exact lt_ne (by assumption) | (refine' lt_ne2 ?A8 ?B8; (case B8 => assumption); (case A8 => assumption)) | k_extra "ne9")) | refine' offL_app ?_ ?_)
  k_with "sel9" => repeat' (first | exact Sel.base | (refine' Sel.old ?m9 ?_; (case m9 => assumption)) | (refine' Sel.cut ?m9 ?_; (case m9 => repeat (first | exact List.mem_cons_self | refine List.mem_cons_of_mem _ ?_))) | refine' Sel.keep ?_ | refine' Sel.app ?_)
  k_with "mems9" => repeat' (first | exact List.forall_mem_nil _ | (refine' List.forall_mem_cons.mpr ⟨?m9, ?_⟩; (case m9 => k_extra "mem9")))
  k_with "isd9" => repeat' (first | (refine' dat_cons ?m9 ?_; (case m9 => first | (intro _; k_mem) | (intro q9; exact absurd q9 (dict_no (by assumption))) | (intro q9; exact absurd q9 (by simp [isDat, instObj, dictOf, itR])))) | (refine' dat_app ?m9 ?_; (case m9 => k_extra "sub9")) | (refine' dat_end ?m9; (case m9 => k_extra "sub9")))
  k_with "~execs cons" => k_extra "fold9"
  k_with "~call builtin:isinstance" => (k_here; (with_reducible show wpAny _ _ (call _ [Value.ref _, Value.type _]) _ _ _); kit_cont; k_dflt kit_objs)
  k_with "~eval Call" => k_extra "fold9"
  k_with "~eval Compare" => k_extra "fold9"
  k_with "~eval BinOp" => k_extra "fold9"
  k_with "~eval Tuple" => k_extra "fold9"
  k_with "~eval List" => k_extra "fold9"
  k_with "~eval Subscript" => k_extra "fold9"
  k_with "~eval Attribute" => k_extra "fold9"
  k_with "~eval IfExp" => k_extra "fold9"
  k_with "lt9" => first
    | with_reducible assumption
    | exact cj0 (by with_reducible assumption)
    | exact cj1 (by with_reducible assumption)
    | exact cj2 (by with_reducible assumption)
    | exact cj3 (by with_reducible assumption)
    | exact cj4 (by with_reducible assumption)
    | exact cj5 (by with_reducible assumption)
    | exact cj6 (by with_reducible assumption)
    | exact cj7 (by with_reducible assumption)
    | exact cz1 (by with_reducible assumption)
    | exact cz2 (by with_reducible assumption)
    | exact cz3 (by with_reducible assumption)
    | exact cz4 (by with_reducible assumption)
    | exact cz5 (by with_reducible assumption)
    | exact cz6 (by with_reducible assumption)
    | exact cz7 (by with_reducible assumption)
    | fail "lt9"
  k_with "om9" => first
    | with_reducible assumption
    | exact Nat.le_of_ble_eq_true rfl
    | exact Ne.symm (by with_reducible assumption)
    | ((with_reducible show (_ : Nat) ≠ _); first | exact Nat.ne_of_lt (by k_extra "lt9") | exact Nat.ne_of_gt (by k_extra "lt9"))
    | ((with_reducible show (_ : Nat) < _); first
      | exact rm1 (by with_reducible assumption) (by exact rfl)
      | exact rm0 (by with_reducible assumption)
      | exact rn1 (by with_reducible assumption) (by exact rfl)
      | exact rn3 (by with_reducible assumption) (by exact rfl)
      | exact rf2 (by with_reducible assumption) (by with_reducible assumption) (by exact rfl)
      | exact rm3 (by with_reducible assumption) (by exact rfl)
      | exact uf2 (by with_reducible assumption) (by with_reducible assumption) (by exact rfl)
      | exact um3 (by with_reducible assumption) (by exact rfl)
      | exact rf1 (by with_reducible assumption) (by with_reducible assumption) (by exact rfl)
      | exact rf3 (by with_reducible assumption) (by with_reducible assumption) (by exact rfl)
      | exact uf3 (by with_reducible assumption) (by with_reducible assumption) (by exact rfl)
      | k_extra "lt9")
    | fail "om9"
  k_with "~@k_all" => first | assumption | exact lt_ne (by assumption) | exact gt_ne (by assumption) | (refine' List.forall_mem_append.mpr ⟨?q9a, ?q9b⟩; (case q9a => k_all); (case q9b => k_all))
  k_with "~call builtin:len" => (k_here; (with_reducible show wpAny _ _ (call (Value.builtin "len") [Value.ref _]) _ _ _); (refine KM.len_K (by k_asm) (by k_dflt k_mem) rfl (by simp; omega) ?_))
  k_with "~@k_room" => ((try simp only [depth_mark, depth_under_make, depth_under_kw, depth_in1, depth_deeper, depth_caller]); (try dsimp only [ktrTop]); omega)
  k_with "~@k_units" => ((have hcL9 := cLine_is); (try simp only [units_in1, units_deeper, Around.mark_units, units_caller]); (try dsimp only [ktrTop]); omega)
  k_with "~exec While Compare cons nil" => k_extra "while!"
  k_with "~pyIter ref" => k_extra "iter!"
  k_with "~call ref" => k_extra "call!"
  k_with "~exec For Name Call cons nil" => (k_extra "for!"; k_here; (rename Fr _ _ _ _ => z9lF'); (with_unfolding_all refine' For_invVF z9lF' ?q9k1 ?q9k2 ?_; (case q9k1 => exact rfl); (case q9k2 => exact rfl); k_whole))
  k_with "~exec For Name Name cons nil" => (k_extra "for!"; k_here; (rename Fr _ _ _ _ => z9lF'); (with_unfolding_all refine' For_invVF z9lF' ?q9k1 ?q9k2 ?_; (case q9k1 => exact rfl); (case q9k2 => exact rfl); k_whole))
  k_with "~@k_mem" => first | assumption | exact List.mem_cons_self | (refine List.mem_cons_of_mem _ ?_; k_mem) | (refine List.mem_append_left _ ?_; k_mem) | (refine List.mem_append_right _ ?_; k_mem)
  k_with "~subscriptTail Name Slice ref ref" => (k_here; (with_reducible show wpAny _ _ (subscriptTail _ (PySem.Expr.Slice _ none none _) (Value.ref _) (Value.ref _)) _ _ _); k_dflt (refine' tup_from ?q9F ?q9N ?q9b ?q9o ?q9l ?q9e ?_ ?q9s ?q9t ?q9z; (case q9F => k_asm); (case q9N => k_asm); (case q9b => k_mem); (case q9o => decide); (case q9l => exact Nat.le_of_ble_eq_true rfl); (case q9e => kl_lit); (case q9s => with_unfolding_all rfl); (case q9t => (intro _; with_unfolding_all rfl)); (case q9z => (simp only [List.length_cons, List.length_nil, sizeLine_eq]; omega))); intro z9D' z9h' z9F' z9N' z9l1; (try k_lt z9l1); (try k_sweep))
  k_with "~exec For Name Subscript cons nil" => (k_here; (rename Fr _ _ _ _ => z9lF'); (with_unfolding_all refine' For_turns z9lF' ?_; k_whole))
  k_with "~exec For Name Name cons nil" => (k_extra "turns!"; k_here; (rename Fr _ _ _ _ => z9lF'); (with_unfolding_all refine' For_turns z9lF' ?_; k_whole))
  k_with "~pyIter ref" => (k_here; (with_reducible show wpAny _ _ (pyIter (Value.ref _)) (fun it s₂ => TurnsAt _ _ _ _ _ _ _ _ _ it s₂) _ _); (rename Fr _ _ _ _ => z9lF'); (rename News _ _ _ _ => z9lN'); k_dflt (refine' iter_tupTurns ?q9h z9lF' z9lN' ?q9m ?q9c ?q9d ?_; (case q9h => with_unfolding_all rfl); (case q9m => k_mem); (case q9c => exact rfl); (case q9d => exact rfl)); clear z9lF'; intro z9i' z9l1; (try k_lt z9l1))
  k_with "~pyIter ref" => (k_here; (with_reducible show wpAny _ _ (pyIter (Value.ref _)) (fun it s₂ => TurnsAt _ _ _ _ _ _ _ _ _ it s₂) _ _); (rename Fr _ _ _ _ => z9lF'); (rename News _ _ _ _ => z9lN'); k_dflt (refine' iter_listTurns ?q9h z9lF' z9lN' ?q9m ?q9c ?q9d ?_; (case q9h => with_unfolding_all rfl); (case q9m => k_mem); (case q9c => exact rfl); (case q9d => exact rfl)); clear z9lF'; intro z9i' z9l1; (try k_lt z9l1))
  k_with "~UnrEndW" => ((rename Fr _ _ _ _ => z9lF'); (rename News _ _ _ _ => z9lN'); (refine' unrEnd z9lF' z9lN' ?q9c9 ?q9o9 ⟨?q9k9, ?_⟩; (case q9c9 => repeat' (first | exact Cut.base | refine' Cut.cons ?_)); (case q9o9 => k_extra "offE9"); (case q9k9 => k_subL)); clear z9lF' z9lN')
  k_with "~@size_fits" => (simp only [List.size_toArray, List.length_append, List.length_cons, List.length_nil, sizeLine_eq]; omega)
  k_with "~call builtin:list.extend" => (k_here; (with_reducible show wpAny _ _ (call (Value.builtin _) [Value.ref _, Value.ref _]) _ _ _); k_dflt (refine' ext_list ?q9F ?q9N ?q9b ?q9ne ?q9U ?q9z ?_; (case q9F => k_asm); (case q9N => k_asm); (case q9b => k_mem); (case q9U => k_upd); (case q9ne => exact List.cons_ne_nil _ _); (case q9z => (simp only [List.length_append, List.length_cons, List.length_nil]; omega))); intro z9h' z9F' z9N'; (try k_sweep))
  k_with "~call builtin:list.pop" => (k_here; (with_reducible show wpAny _ _ (call (Value.builtin _) [Value.ref _]) _ _ _); k_dflt (refine' pop_list ?q9F ?q9N ?q9U ?q9z ?_; (case q9F => k_asm); (case q9N => k_asm); (case q9U => k_upd); (case q9z => omega)); intro z9h' z9F' z9N'; (try k_sweep))
  k_with "~exec Raise some none" => (k_here; refine raise_fault (by rfl) ?_)
  k_with "~call ref" => ((with_reducible show wpAny _ _ (call (Value.ref 44) [_]) _ _ _); k_here; k_dflt (refine' call_fault ?q9k1 ?q9k2 ?q9k3 ?_; (case q9k1 => k_asm); (case q9k2 => k_asm); (case q9k3 => k_asm); intro z9e' z9t' z9h' z9F' z9N' z9l1 z9l2 z9l3 z9n' z9k'; (try k_lt z9l1); (try k_lt2 z9l2); (try k_lt z9l3); (try k_sweep); k_enter))
  k_with "~getMethod type:Exception" => (k_here; (with_reducible refine' method_type ?q9F ?q9X exc_kind exc_stub ?q9e ?q9h ?_); k_dflt ((case q9F => k_asm); (case q9X => k_asm); (case q9e => k_is); (case q9h => k_handed)))
  k_with "~call builtin:Exception.__init__" => (k_here; k_dflt (refine' exc_init ?q9F ?q9X ?q9N ?q9U ?_; (case q9F => k_asm); (case q9X => k_asm); (case q9N => k_asm); (case q9U => k_updF); intro z9t' z9h' z9F' z9N'; (try dsimp only at z9N'); (try k_sweep)))
  k_with "~setAttr ref" => ((with_reducible show wpAny _ _ (setAttr (Value.ref _) (PySem.Str.ofString "text") _) _ _ _); k_here; k_dflt (refine' set_text ?q9T ?q9F ?q9X ?q9N ?q9U ?_; (case q9T => rfl); (case q9F => k_asm); (case q9X => k_asm); (case q9N => k_asm); (case q9U => k_updF); intro z9d' z9h' z9tk' z9F' z9N'; (try dsimp only at z9N'); (try k_sweep)))
  k_with "~exec Raise some none" => (k_here; k_dflt (refine raise_fault' (by rfl) ?_))
  k_with "~Raises44" => (k_here; k_dflt (refine' raises_of ?q9F ?q9X ?q9N ?q9m ?_; (case q9F => k_asm); (case q9X => k_asm); (case q9N => k_asm); (case q9m => k_mem)))
  k_with "~leaving ref" => (k_here; k_dflt (refine' leave_newB ?q9k1 ?q9k2 ?q9k3 ?q9k4 ?_; (case q9k1 => assumption); (case q9k2 => assumption); (case q9k3 => assumption); (case q9k4 => k_mem); k_whole; intro z9h' z9R' z9U'; (try dsimp only at z9R' z9U' ⊢)))
  k_with "~compareOp NotIn str ref" => (k_here; k_dflt (first
    | refine kdg_notin (knd := PySem.strKind _ _) (by k_asm) (by k_mem) (by assumption) (by assumption) (strKind_is _ _ _ _) true (by rw [‹valueAt _ _ = some _›]; rfl) ?_
    | refine kdg_notin (knd := PySem.strKind _ _) (by k_asm) (by k_mem) (by assumption) (by assumption) (strKind_is _ _ _ _) false (by rw [‹valueAt _ _ = none›]; rfl) ?_); (try dsimp only [Bool.not_true, Bool.not_false]))
  k_with "~compareOp In str ref" => (k_here; k_dflt (first
    | refine kda_in (knd := PySem.strKind _ _) (by k_asm) (by k_mem) (by assumption) (by assumption) (strKind_is _ _ _ _) true (by rw [‹valueAt _ _ = some _›]; rfl) ?_
    | refine kda_in (knd := PySem.strKind _ _) (by k_asm) (by k_mem) (by assumption) (by assumption) (strKind_is _ _ _ _) false (by rw [‹valueAt _ _ = none›]; rfl) ?_))
  k_with "~subscriptTail" => (k_here; k_dflt ((with_reducible show wpAny _ _ (subscriptTail _ _ (Value.ref _) (Value.str _ _)) _ _ _); refine kda_item (knd := PySem.strKind _ _) (by k_asm) (by k_mem) (by assumption) (strKind_is _ _ _ _) (by assumption) ?_))
  trivial
noncomputable abbrev limD (w : World) (t : Fin 16 → Tok) (k : Nat) : Obj :=
  dictOf [en w "width" (t 0) (.int 32 (t 8)), en w "real_digits" (t 1) (.int 7 (t 9)), en w "double_digits" (t 2) (.int 15 (t 10)), en w "top_exponent" (t 3) (.int 38 (t 11)), en w "steps" (t 4) (.int 1000000 (t 12)), en w "continuations" (t 5) (.int 19 (t 13)), en w "columns" (t 6) (.int 72 (t 14)), en w "depth" (t 7) (.int 40 (t 15))] k
noncomputable def LimAt (w : World) (S : List (Addr × Obj)) (a : Addr) : Prop := ∃ d t k, (a, instObj 303 d) ∈ S ∧ (d, limD w t k) ∈ S
theorem LimAt.mono {w : World} {S S' : List (Addr × Obj)} {a : Addr} (H : LimAt w S a) (s : ∀ p ∈ S, p ∈ S') : LimAt w S' a := by
  obtain ⟨d, t, k, a, b⟩ := H
  exact ⟨d, t, k, s _ a, s _ b⟩
theorem const_one (w : World) (lim : Addr) (S : List (Addr × Obj)) (v : Value) (hv : DatIn S v Ex.one.dat) (hl : LimAt w S lim) :
    Tel w 154 [v, .ref lim] 12 S (fun r news' => ∃ tl, news' = tl ++ S ∧ OffL tl S ∧ DatIn news' r Ty.one.dat) False := by
  have lp : Challenge.rw_pq0356_01.foot = Challenge.rw_pq0356_01.foot ∧ hd.heap_39 = hd.heap_39 := by k_fill; exact ⟨rfl, rfl⟩
  clear lp
  intro mean mg mb dp un gd cn cs a' ccd cl outer A₀ base h₀ L m s Q E B F X N T hk hdp hun hret hexc
  obtain ⟨ad, nn, t1, t2, t3, rfl, hm⟩ := Ex.one_inv hv
  obtain ⟨d, t, k, m1, m2⟩ := hl
  have N2 : News h₀ L s.heap ((ad, tupO [.str (Str.ofString "real") t1, .int 1 t2, .int 0 t3] nn) :: (lim, instObj 303 d) :: (d, limD w t k) :: S) := news_sub N (by k_extra "sub9")
  clear N
  refine wpAny_call ?_
  k_dflt ktr_enter
  k_steps
  k_extra "and9"
  refine hret _ (_ :: _ :: S) _ _ (by assumption) (news_sub (by assumption) (List.forall_mem_cons.mpr ⟨List.mem_cons_self, List.forall_mem_cons.mpr ⟨List.mem_cons_of_mem _ List.mem_cons_self, by k_extra "sub9"⟩⟩)) ⟨[_, _], rfl, offL_swap (offL_cons ?o9 (offL_cons ?o8 offL_nil)), ?d9⟩
  case o9 => k_extra "ne9"
  case o8 => k_extra "ne9"
  case d9 => rw [Ty.dat, oneT]; k_extra "dat9"
theorem reg_words_Una : True := by
  k_with_none
  w_top off
  k_with "for!" => fail "no word"
  k_with "memr9" => first
    | with_reducible assumption
    | with_reducible exact List.mem_cons_self
    | (with_reducible refine List.mem_cons_of_mem _ ?_; k_extra "memr9")
    | (with_reducible refine List.mem_append_right _ ?_; k_extra "memr9")
    | (with_reducible refine List.mem_append_left _ ?_; k_extra "memr9")
  k_with "mem9" => first
    | k_extra "memr9"
    | assumption
    | k_mem
    | (simp only [List.mem_cons, List.mem_append] at *; simp only [*, true_or, or_true])
    | grind
  k_with "sub8" => first
    | exact List.forall_mem_nil _
    | (refine' List.forall_mem_cons.mpr ⟨?m8, ?_⟩; (case m8 => k_mem); k_extra "sub8")
    | (refine' List.forall_mem_append.mpr ⟨?m8, ?_⟩; (case m8 => k_extra "sub8"); k_extra "sub8")
    | (intro p8 h8; k_mem)
  k_with "sub9" => first
    | k_extra "sub8"
    | (intro p9 h9; first
      | exact h9
      | (simp only [List.mem_cons, List.mem_append] at h9 ⊢; grind))
  k_with "dat9" => repeat' (first
    | exact DatIn.str _ _
    | exact DatIn.int _ _
    | exact DatAll.nil
    | assumption
    | (refine' DatAll.cons ?_ ?_)
    | (refine' DatIn.tuple ?m9 ?_; (case m9 => k_extra "mem9"))
    | (refine' DatIn.list ?m9 ?_; (case m9 => k_extra "mem9"))
    | (refine' DatIn.mono ?s9 ?h9; (case h9 => assumption); (case s9 => k_extra "sub9")))
  k_with "and9" => first
    | ((fail_if_success (fail_if_success (rename _ ∧ _ => hc9))); refine foldP (fun G9 hG9 => ?_); (repeat' (rename _ ∧ _ => hc9; refine and_go hc9 (fun hc8 hc7 => ?_); clear hc9)); refine hG9 ?_; clear hG9 G9)
    | skip
  k_with "fold9" => ((fail_if_success (fail_if_success k_fold)); refine (let q9 := _; let e9 := _; (?_ : wpAny _ _ _ q9 e9 _)))
  k_with "ne9" => first
    | assumption
    | (refine' ne_all ?h9 ?s9; (case h9 => assumption); (case s9 => k_extra "sub9"))
    | (refine' ne_allT ?h9 ?s9; (case h9 => assumption); (case s9 => k_extra "sub9"))
  k_with "off9" => (
    refine' off_of ?_
    repeat' (first
    | exact offL_nil
    | (refine' offL_sub ?h9 ?s9; (case h9 => assumption); (case s9 => k_extra "sub9"))
    | (refine' offL_cons ?o9 ?_; (case o9 => k_extra "ne9"))
    | (refine' offL_app ?_ ?_)))
  k_with "split9" => first | exact Split.base | (refine Split.cons ?_; k_extra "split9") | (refine Split.app ?_; k_extra "split9")
  k_with "same9" => (intro z9 h1 h2 h3; (simp only [List.mem_cons, List.not_mem_nil, or_false, forall_eq_or_imp, forall_eq] at h2); (simp only [List.contains_cons, List.contains_nil, Bool.or_false, Bool.or_eq_false_iff, beq_eq_false_iff_ne, ne_eq] at h3); (simp [h1, h2, h3, kstB]; done))
  k_with "sameW9" => (intro z9 h2 h3; (simp only [List.mem_cons, List.not_mem_nil, or_false, forall_eq_or_imp, forall_eq] at h2); (simp only [List.contains_cons, List.contains_nil, Bool.or_false, Bool.or_eq_false_iff, beq_eq_false_iff_ne, ne_eq] at h3); (simp [h2, h3, kstB]; done))
  k_with "one9" => (first | exact List.forall_mem_nil _ | (refine' List.forall_mem_cons.mpr ⟨?a9, ?_⟩; (case a9 => with_unfolding_all rfl); k_extra "one9"))
  k_with "offE9" => ((try dsimp only); (repeat (refine' List.forall_mem_cons.mpr ⟨?o9, ?_⟩; (case o9 => ((try dsimp only); k_ne)))); (repeat' (rename _ ∧ _ => hc9; rcases hc9 with ⟨hc8, hc7⟩)); first | exact List.forall_mem_nil _ | assumption | exact lt_ne (by assumption) | exact gt_ne (by assumption))
  k_with "rot9" => repeat' (first | exact Rot.here | refine' Rot.next ?_)
  k_with "nes8" => repeat' (first | assumption | exact List.forall_mem_nil _ | (refine' List.forall_mem_cons.mpr ⟨?m8, ?_⟩; (case m8 => dsimp only; first | exact Nat.ne_of_gt (by assumption) | exact Nat.ne_of_lt (by assumption) | assumption | exact Ne.symm (by assumption) | k_ne)) | exact lt_ne (by assumption) | refine' List.forall_mem_append.mpr ⟨?_, ?_⟩)
  k_with "offs8" => repeat' (first | assumption | exact offL_nil | exact offL_swap (by assumption) | (refine' offL_cons ?m8 ?_; (case m8 => dsimp only; first | exact lt_ne (by assumption) | (refine' lt_ne2 ?A8 ?B8; (case B8 => assumption); (case A8 => assumption)) | k_extra "ne9")) | refine' offL_app ?_ ?_)
  k_with "sel9" => repeat' (first | exact Sel.base | (refine' Sel.old ?m9 ?_; (case m9 => assumption)) | (refine' Sel.cut ?m9 ?_; (case m9 => repeat (first | exact List.mem_cons_self | refine List.mem_cons_of_mem _ ?_))) | refine' Sel.keep ?_ | refine' Sel.app ?_)
  k_with "mems9" => repeat' (first | exact List.forall_mem_nil _ | (refine' List.forall_mem_cons.mpr ⟨?m9, ?_⟩; (case m9 => k_extra "mem9")))
  k_with "isd9" => repeat' (first | (refine' dat_cons ?m9 ?_; (case m9 => first | (intro _; k_mem) | (intro q9; exact absurd q9 (dict_no (by assumption))) | (intro q9; exact absurd q9 (by simp [isDat, instObj, dictOf, itR])))) | (refine' dat_app ?m9 ?_; (case m9 => k_extra "sub9")) | (refine' dat_end ?m9; (case m9 => k_extra "sub9")))
  k_with "~execs cons" => k_extra "fold9"
  k_with "~call builtin:isinstance" => (k_here; (with_reducible show wpAny _ _ (call _ [Value.ref _, Value.type _]) _ _ _); kit_cont; k_dflt kit_objs)
  k_with "~eval Call" => k_extra "fold9"
  k_with "~eval Compare" => k_extra "fold9"
  k_with "~eval BinOp" => k_extra "fold9"
  k_with "~eval Tuple" => k_extra "fold9"
  k_with "~eval List" => k_extra "fold9"
  k_with "~eval Subscript" => k_extra "fold9"
  k_with "~eval Attribute" => k_extra "fold9"
  k_with "~eval IfExp" => k_extra "fold9"
  k_with "lt9" => first
    | with_reducible assumption
    | exact cj0 (by with_reducible assumption)
    | exact cj1 (by with_reducible assumption)
    | exact cj2 (by with_reducible assumption)
    | exact cj3 (by with_reducible assumption)
    | exact cj4 (by with_reducible assumption)
    | exact cj5 (by with_reducible assumption)
    | exact cj6 (by with_reducible assumption)
    | exact cj7 (by with_reducible assumption)
    | exact cz1 (by with_reducible assumption)
    | exact cz2 (by with_reducible assumption)
    | exact cz3 (by with_reducible assumption)
    | exact cz4 (by with_reducible assumption)
    | exact cz5 (by with_reducible assumption)
    | exact cz6 (by with_reducible assumption)
    | exact cz7 (by with_reducible assumption)
    | fail "lt9"
  k_with "om9" => first
    | with_reducible assumption
    | exact Nat.le_of_ble_eq_true rfl
    | exact Ne.symm (by with_reducible assumption)
    | ((with_reducible show (_ : Nat) ≠ _); first | exact Nat.ne_of_lt (by k_extra "lt9") | exact Nat.ne_of_gt (by k_extra "lt9"))
    | ((with_reducible show (_ : Nat) < _); first
      | exact rm1 (by with_reducible assumption) (by exact rfl)
      | exact rm0 (by with_reducible assumption)
      | exact rn1 (by with_reducible assumption) (by exact rfl)
      | exact rn3 (by with_reducible assumption) (by exact rfl)
      | exact rf2 (by with_reducible assumption) (by with_reducible assumption) (by exact rfl)
      | exact rm3 (by with_reducible assumption) (by exact rfl)
      | exact uf2 (by with_reducible assumption) (by with_reducible assumption) (by exact rfl)
      | exact um3 (by with_reducible assumption) (by exact rfl)
      | exact rf1 (by with_reducible assumption) (by with_reducible assumption) (by exact rfl)
      | exact rf3 (by with_reducible assumption) (by with_reducible assumption) (by exact rfl)
      | exact uf3 (by with_reducible assumption) (by with_reducible assumption) (by exact rfl)
      | k_extra "lt9")
    | fail "om9"
  k_with "~@k_all" => first | assumption | exact lt_ne (by assumption) | exact gt_ne (by assumption) | (refine' List.forall_mem_append.mpr ⟨?q9a, ?q9b⟩; (case q9a => k_all); (case q9b => k_all))
  k_with "~call builtin:len" => (k_here; (with_reducible show wpAny _ _ (call (Value.builtin "len") [Value.ref _]) _ _ _); (refine KM.len_K (by k_asm) (by k_dflt k_mem) rfl (by simp; omega) ?_))
  k_with "~@k_room" => ((try simp only [depth_mark, depth_under_make, depth_under_kw, depth_in1, depth_deeper, depth_caller]); (try dsimp only [ktrTop]); omega)
  k_with "~@k_units" => ((have hcL9 := cLine_is); (try simp only [units_in1, units_deeper, Around.mark_units, units_caller]); (try dsimp only [ktrTop]); omega)
  k_with "~exec While Compare cons nil" => k_extra "while!"
  k_with "~pyIter ref" => k_extra "iter!"
  k_with "~call ref" => k_extra "call!"
  k_with "~exec For Name Call cons nil" => (k_extra "for!"; k_here; (rename Fr _ _ _ _ => z9lF'); (with_unfolding_all refine' For_invVF z9lF' ?q9k1 ?q9k2 ?_; (case q9k1 => exact rfl); (case q9k2 => exact rfl); k_whole))
  k_with "~exec For Name Name cons nil" => (k_extra "for!"; k_here; (rename Fr _ _ _ _ => z9lF'); (with_unfolding_all refine' For_invVF z9lF' ?q9k1 ?q9k2 ?_; (case q9k1 => exact rfl); (case q9k2 => exact rfl); k_whole))
  k_with "~@k_mem" => first | assumption | exact List.mem_cons_self | (refine List.mem_cons_of_mem _ ?_; k_mem) | (refine List.mem_append_left _ ?_; k_mem) | (refine List.mem_append_right _ ?_; k_mem)
  k_with "~subscriptTail Name Slice ref ref" => (k_here; (with_reducible show wpAny _ _ (subscriptTail _ (PySem.Expr.Slice _ none none _) (Value.ref _) (Value.ref _)) _ _ _); k_dflt (refine' tup_from ?q9F ?q9N ?q9b ?q9o ?q9l ?q9e ?_ ?q9s ?q9t ?q9z; (case q9F => k_asm); (case q9N => k_asm); (case q9b => k_mem); (case q9o => decide); (case q9l => exact Nat.le_of_ble_eq_true rfl); (case q9e => kl_lit); (case q9s => with_unfolding_all rfl); (case q9t => (intro _; with_unfolding_all rfl)); (case q9z => (simp only [List.length_cons, List.length_nil, sizeLine_eq]; omega))); intro z9D' z9h' z9F' z9N' z9l1; (try k_lt z9l1); (try k_sweep))
  k_with "~exec For Name Subscript cons nil" => (k_here; (rename Fr _ _ _ _ => z9lF'); (with_unfolding_all refine' For_turns z9lF' ?_; k_whole))
  k_with "~exec For Name Name cons nil" => (k_extra "turns!"; k_here; (rename Fr _ _ _ _ => z9lF'); (with_unfolding_all refine' For_turns z9lF' ?_; k_whole))
  k_with "~pyIter ref" => (k_here; (with_reducible show wpAny _ _ (pyIter (Value.ref _)) (fun it s₂ => TurnsAt _ _ _ _ _ _ _ _ _ it s₂) _ _); (rename Fr _ _ _ _ => z9lF'); (rename News _ _ _ _ => z9lN'); k_dflt (refine' iter_tupTurns ?q9h z9lF' z9lN' ?q9m ?q9c ?q9d ?_; (case q9h => with_unfolding_all rfl); (case q9m => k_mem); (case q9c => exact rfl); (case q9d => exact rfl)); clear z9lF'; intro z9i' z9l1; (try k_lt z9l1))
  k_with "~pyIter ref" => (k_here; (with_reducible show wpAny _ _ (pyIter (Value.ref _)) (fun it s₂ => TurnsAt _ _ _ _ _ _ _ _ _ it s₂) _ _); (rename Fr _ _ _ _ => z9lF'); (rename News _ _ _ _ => z9lN'); k_dflt (refine' iter_listTurns ?q9h z9lF' z9lN' ?q9m ?q9c ?q9d ?_; (case q9h => with_unfolding_all rfl); (case q9m => k_mem); (case q9c => exact rfl); (case q9d => exact rfl)); clear z9lF'; intro z9i' z9l1; (try k_lt z9l1))
  k_with "~UnrEndW" => ((rename Fr _ _ _ _ => z9lF'); (rename News _ _ _ _ => z9lN'); (refine' unrEnd z9lF' z9lN' ?q9c9 ?q9o9 ⟨?q9k9, ?_⟩; (case q9c9 => repeat' (first | exact Cut.base | refine' Cut.cons ?_)); (case q9o9 => k_extra "offE9"); (case q9k9 => k_subL)); clear z9lF' z9lN')
  k_with "~@size_fits" => (simp only [List.size_toArray, List.length_append, List.length_cons, List.length_nil, sizeLine_eq]; omega)
  k_with "~call builtin:list.extend" => (k_here; (with_reducible show wpAny _ _ (call (Value.builtin _) [Value.ref _, Value.ref _]) _ _ _); k_dflt (refine' ext_list ?q9F ?q9N ?q9b ?q9ne ?q9U ?q9z ?_; (case q9F => k_asm); (case q9N => k_asm); (case q9b => k_mem); (case q9U => k_upd); (case q9ne => exact List.cons_ne_nil _ _); (case q9z => (simp only [List.length_append, List.length_cons, List.length_nil]; omega))); intro z9h' z9F' z9N'; (try k_sweep))
  k_with "~call builtin:list.pop" => (k_here; (with_reducible show wpAny _ _ (call (Value.builtin _) [Value.ref _]) _ _ _); k_dflt (refine' pop_list ?q9F ?q9N ?q9U ?q9z ?_; (case q9F => k_asm); (case q9N => k_asm); (case q9U => k_upd); (case q9z => omega)); intro z9h' z9F' z9N'; (try k_sweep))
  k_with "~exec Raise some none" => (k_here; refine raise_fault (by rfl) ?_)
  k_with "~call ref" => ((with_reducible show wpAny _ _ (call (Value.ref 44) [_]) _ _ _); k_here; k_dflt (refine' call_fault ?q9k1 ?q9k2 ?q9k3 ?_; (case q9k1 => k_asm); (case q9k2 => k_asm); (case q9k3 => k_asm); intro z9e' z9t' z9h' z9F' z9N' z9l1 z9l2 z9l3 z9n' z9k'; (try k_lt z9l1); (try k_lt2 z9l2); (try k_lt z9l3); (try k_sweep); k_enter))
  k_with "~getMethod type:Exception" => (k_here; (with_reducible refine' method_type ?q9F ?q9X exc_kind exc_stub ?q9e ?q9h ?_); k_dflt ((case q9F => k_asm); (case q9X => k_asm); (case q9e => k_is); (case q9h => k_handed)))
  k_with "~call builtin:Exception.__init__" => (k_here; k_dflt (refine' exc_init ?q9F ?q9X ?q9N ?q9U ?_; (case q9F => k_asm); (case q9X => k_asm); (case q9N => k_asm); (case q9U => k_updF); intro z9t' z9h' z9F' z9N'; (try dsimp only at z9N'); (try k_sweep)))
  k_with "~setAttr ref" => ((with_reducible show wpAny _ _ (setAttr (Value.ref _) (PySem.Str.ofString "text") _) _ _ _); k_here; k_dflt (refine' set_text ?q9T ?q9F ?q9X ?q9N ?q9U ?_; (case q9T => rfl); (case q9F => k_asm); (case q9X => k_asm); (case q9N => k_asm); (case q9U => k_updF); intro z9d' z9h' z9tk' z9F' z9N'; (try dsimp only at z9N'); (try k_sweep)))
  k_with "~exec Raise some none" => (k_here; k_dflt (refine raise_fault' (by rfl) ?_))
  k_with "~Raises44" => (k_here; k_dflt (refine' raises_of ?q9F ?q9X ?q9N ?q9m ?_; (case q9F => k_asm); (case q9X => k_asm); (case q9N => k_asm); (case q9m => k_mem)))
  k_with "~leaving ref" => (k_here; k_dflt (refine' leave_newB ?q9k1 ?q9k2 ?q9k3 ?q9k4 ?_; (case q9k1 => assumption); (case q9k2 => assumption); (case q9k3 => assumption); (case q9k4 => k_mem); k_whole; intro z9h' z9R' z9U'; (try dsimp only at z9R' z9U' ⊢)))
  k_with "~compareOp NotIn str ref" => (k_here; k_dflt (first
    | refine kdg_notin (knd := PySem.strKind _ _) (by k_asm) (by k_mem) (by assumption) (by assumption) (strKind_is _ _ _ _) true (by rw [‹valueAt _ _ = some _›]; rfl) ?_
    | refine kdg_notin (knd := PySem.strKind _ _) (by k_asm) (by k_mem) (by assumption) (by assumption) (strKind_is _ _ _ _) false (by rw [‹valueAt _ _ = none›]; rfl) ?_); (try dsimp only [Bool.not_true, Bool.not_false]))
  k_with "~compareOp In str ref" => (k_here; k_dflt (first
    | refine kda_in (knd := PySem.strKind _ _) (by k_asm) (by k_mem) (by assumption) (by assumption) (strKind_is _ _ _ _) true (by rw [‹valueAt _ _ = some _›]; rfl) ?_
    | refine kda_in (knd := PySem.strKind _ _) (by k_asm) (by k_mem) (by assumption) (by assumption) (strKind_is _ _ _ _) false (by rw [‹valueAt _ _ = none›]; rfl) ?_))
  k_with "~subscriptTail" => (k_here; k_dflt ((with_reducible show wpAny _ _ (subscriptTail _ _ (Value.ref _) (Value.str _ _)) _ _ _); refine kda_item (knd := PySem.strKind _ _) (by k_asm) (by k_mem) (by assumption) (strKind_is _ _ _ _) (by assumption) ?_))
  k_with "~subscriptTail" => (k_here; (with_reducible show wpAny _ _ (subscriptTail _ _ (Value.ref _) (Value.int 1 _)) _ _ _); k_dflt (refine item_kind (by k_asm) (by assumption) (by k_extra "sub9") ?_ (by with_unfolding_all rfl) (by intro _; with_unfolding_all rfl)); intro z9t')
  trivial
theorem item_kind {prog : Program} {w : World} {A : Around} {E : Value → Shared → Prop} {s : Shared} {h₀ : Heap} {L a : Addr} {news S : List (Addr × Obj)} {u : Tok} {value slice : PySem.Expr} {Q : Value → Shared → Prop} {t : Ty}
    (N : News h₀ L s.heap news) (hd : DatIn S (.ref a) t.dat) (sub : ∀ p ∈ S, p ∈ news) (h : ∀ t, Q (.int 1 t) s)
    (hs : subscripted slice false (.ref a) (.int 1 u) = operate [.ref a, .int 1 u] (getItem (.ref a) (.int 1 u))) (hg : ∀ r, letTemporaryGo value (.ref a) r = pure ()) :
    wpAny (model prog w) A (subscriptTail value slice (.ref a) (.int 1 u)) Q E s := by
  have go : ∀ (vs : List Value) (n : Nat) (t' : Tok), (a, tupO vs n) ∈ S → vs[1]? = some (.int 1 t') → seqIndex? 1 vs.length = some 1 → wpAny (model prog w) A (subscriptTail value slice (.ref a) (.int 1 u)) Q E s :=
    fun vs n t' hm e1 e2 => item_tupleL (l := vs) (j := 1) ⟨_, (N _ (sub _ hm)).1, rfl, _, rfl⟩ (by decide) (by decide) e2 e1 (h t') hs hg
  cases t with
  | var => obtain ⟨ad, n, t1, t2, t3, e, hm⟩ := Ty.var_inv hd; cases e; exact go _ _ t2 hm rfl rfl
  | one => obtain ⟨ad, n, t1, t2, ad2, n2, t3, t4, e, hm, hm2⟩ := Ty.one_inv hd; cases e; exact go _ _ t2 hm rfl rfl
  | ng t => obtain ⟨ad, n, t2, t3, ve, e, hm, he⟩ := Ty.ng_inv hd; cases e; exact go _ _ t3 hm rfl rfl
  | bi p l r => obtain ⟨ad, n, t2, t3, vl, vr, e, hm, hl, hr⟩ := Ty.bi_inv hd; cases e; exact go _ _ t3 hm rfl rfl
/-- the cell of the count -/
noncomputable abbrev cel (sp : Addr) (c : Nat) (tc : Tok) (nn : Nat) : Addr × Obj := (sp, listOf [.int (c : Int) tc].toArray nn)
/-- what a resolving hands back -/
noncomputable def EvP (S : List (Addr × Obj)) (sp : Addr) (res : Option (Ty × Nat)) (r : Value) (n : List (Addr × Obj)) : Prop :=
  ∃ t c tl tc nn, res = some (t, c) ∧ n = cel sp c tc nn :: (tl ++ S) ∧ (∀ p ∈ tl, p.1 ≠ sp) ∧ OffL tl S ∧ DatIn (tl ++ S) r t.dat
noncomputable def mapT (f : Ty → Ty) : Option (Ty × Nat) → Option (Ty × Nat)
  | some (t, c) => some (f t, c)
  | none => none
theorem mapT_none {f : Ty → Ty} {r : Option (Ty × Nat)} : mapT f r = none ↔ r = none := by cases r with | none => simp [mapT] | some x => obtain ⟨t, c⟩ := x; simp [mapT]
theorem Ty.hin {S : List (Addr × Obj)} {v : Value} {t : Ty} (h : DatIn S v t.dat) : ∃ a, v = .ref a := by
  cases t with
  | var => obtain ⟨ad, n, t1, t2, t3, e, hm⟩ := Ty.var_inv h; exact ⟨_, e⟩
  | one => obtain ⟨ad, n, t1, t2, ad2, n2, t3, t4, e, hm, hm2⟩ := Ty.one_inv h; exact ⟨_, e⟩
  | ng t => obtain ⟨ad, n, t2, t3, ve, e, hm, he⟩ := Ty.ng_inv h; exact ⟨_, e⟩
  | bi p l r => obtain ⟨ad, n, t2, t3, vl, vr, e, hm, hl, hr⟩ := Ty.bi_inv h; exact ⟨_, e⟩
theorem EvP.mk2 {S tl9 : List (Addr × Obj)} {x : Addr × Obj} {sp : Addr} {t : Ty} {c : Nat} {tc : Tok} {nn : Nat} {r : Value} {res : Option (Ty × Nat)} (hf : res = some (t, c)) (h : x.1 ≠ sp) (hx : ∀ p ∈ tl9 ++ S, p.1 ≠ x.1) (h9 : ∀ p ∈ tl9, p.1 ≠ sp) (o9 : OffL tl9 S) (hd : DatIn (x :: (tl9 ++ S)) r t.dat) :
    EvP S sp res r (cel sp c tc nn :: x :: (tl9 ++ S)) :=
  ⟨t, c, x :: tl9, tc, nn, hf, rfl, List.forall_mem_cons.mpr ⟨h, h9⟩, List.forall_mem_cons.mpr ⟨fun q hq e => hx q (List.mem_append_right _ hq) e.symm, o9⟩, hd⟩
theorem runary (w : World) (ade : Addr) (sc sp : Addr) (fr : Nat) (hfr : 5 ≤ fr) (S : List (Addr × Obj)) (c : Nat) (tc : Tok) (nn : Nat) (res : Option (Ty × Nat)) (t0 : Tok) (hS : ∀ p ∈ S, p.1 ≠ sp)
    (C : Tel w 285 [.ref ade, .ref sc] fr (cel sp c tc nn :: S) (EvP S sp res) (res = none)) :
    Tel w 250 [.str (Str.ofString "-") t0, .ref ade, .ref sc] (fr + 2) (cel sp c tc nn :: S) (EvP S sp (mapT .ng res)) (mapT .ng res = none) := by
  have lp : Challenge.rw_pq0356_01.foot = Challenge.rw_pq0356_01.foot ∧ hd.heap_39 = hd.heap_39 := by k_fill; exact ⟨rfl, rfl⟩
  clear lp
  intro mean mg mb dp un gd cn cs a' ccd cl outer A₀ base h₀ L m s Q E B F X N T hk hdp hun hret hexc
  k_with "call!" => ((with_reducible show wpAny _ _ (call (Value.ref 285) _) _ _ _); refine Stop.out ?_)
  refine wpAny_call ?_
  k_dflt ktr_enter
  k_steps
  refine Stop.on ?_
  k_dflt (refine tel_go (by k_asm) (by k_asm) (by k_asm) (by k_asm) (by rfl) (by k_asm) C (by k_room) (by k_units) ?_ ?_)
  · rintro r9 news9 h9 tk9 F9 N9 ⟨t, c9, tl9, tc9, nn9, rfl, rfl, ho9, hof9, hd9⟩
    obtain ⟨a9, rfl⟩ := Ty.hin hd9
    k_steps
    k_extra "and9"
    refine hret _ (cel sp c9 tc9 nn9 :: _ :: (tl9 ++ S)) _ _ (by assumption) (news_sub (by assumption) (List.forall_mem_cons.mpr ⟨by k_mem, List.forall_mem_cons.mpr ⟨List.mem_cons_self, by k_extra "sub9"⟩⟩)) (EvP.mk2 rfl ?o8 ?o7 ho9 hof9 ?d9)
    case o8 => ((try dsimp only); (first | assumption | exact Nat.ne_of_gt (by assumption)))
    case o7 => exact lt_ne (by assumption)
    case d9 => rw [Ty.dat]; k_extra "dat9"
  · intro hx e9 h9 tk9 Fl9
    exact fly_on Fl9 (by assumption) (by assumption) (fun h' Fl' => hexc (mapT_none.mpr hx) _ _ _ Fl')
theorem reg_words_Bin : True := by
  k_with_none
  w_top off
  k_with "for!" => fail "no word"
  k_with "memr9" => first
    | with_reducible assumption
    | with_reducible exact List.mem_cons_self
    | (with_reducible refine List.mem_cons_of_mem _ ?_; k_extra "memr9")
    | (with_reducible refine List.mem_append_right _ ?_; k_extra "memr9")
    | (with_reducible refine List.mem_append_left _ ?_; k_extra "memr9")
  k_with "mem9" => first
    | k_extra "memr9"
    | assumption
    | k_mem
    | (simp only [List.mem_cons, List.mem_append] at *; simp only [*, true_or, or_true])
    | grind
  k_with "sub8" => first
    | exact List.forall_mem_nil _
    | (refine' List.forall_mem_cons.mpr ⟨?m8, ?_⟩; (case m8 => k_mem); k_extra "sub8")
    | (refine' List.forall_mem_append.mpr ⟨?m8, ?_⟩; (case m8 => k_extra "sub8"); k_extra "sub8")
    | (intro p8 h8; k_mem)
  k_with "sub9" => first
    | k_extra "sub8"
    | (intro p9 h9; first
      | exact h9
      | (simp only [List.mem_cons, List.mem_append] at h9 ⊢; grind))
  k_with "dat9" => repeat' (first
    | exact DatIn.str _ _
    | exact DatIn.int _ _
    | exact DatAll.nil
    | assumption
    | (refine' DatAll.cons ?_ ?_)
    | (refine' DatIn.tuple ?m9 ?_; (case m9 => k_extra "mem9"))
    | (refine' DatIn.list ?m9 ?_; (case m9 => k_extra "mem9"))
    | (refine' DatIn.mono ?s9 ?h9; (case h9 => assumption); (case s9 => k_extra "sub9")))
  k_with "and9" => first
    | ((fail_if_success (fail_if_success (rename _ ∧ _ => hc9))); refine foldP (fun G9 hG9 => ?_); (repeat' (rename _ ∧ _ => hc9; refine and_go hc9 (fun hc8 hc7 => ?_); clear hc9)); refine hG9 ?_; clear hG9 G9)
    | skip
  k_with "fold9" => ((fail_if_success (fail_if_success k_fold)); refine (let q9 := _; let e9 := _; (?_ : wpAny _ _ _ q9 e9 _)))
  k_with "ne9" => first
    | assumption
    | (refine' ne_all ?h9 ?s9; (case h9 => assumption); (case s9 => k_extra "sub9"))
    | (refine' ne_allT ?h9 ?s9; (case h9 => assumption); (case s9 => k_extra "sub9"))
  k_with "off9" => (
    refine' off_of ?_
    repeat' (first
    | exact offL_nil
    | (refine' offL_sub ?h9 ?s9; (case h9 => assumption); (case s9 => k_extra "sub9"))
    | (refine' offL_cons ?o9 ?_; (case o9 => k_extra "ne9"))
    | (refine' offL_app ?_ ?_)))
  k_with "split9" => first | exact Split.base | (refine Split.cons ?_; k_extra "split9") | (refine Split.app ?_; k_extra "split9")
  k_with "same9" => (intro z9 h1 h2 h3; (simp only [List.mem_cons, List.not_mem_nil, or_false, forall_eq_or_imp, forall_eq] at h2); (simp only [List.contains_cons, List.contains_nil, Bool.or_false, Bool.or_eq_false_iff, beq_eq_false_iff_ne, ne_eq] at h3); (simp [h1, h2, h3, kstB]; done))
  k_with "sameW9" => (intro z9 h2 h3; (simp only [List.mem_cons, List.not_mem_nil, or_false, forall_eq_or_imp, forall_eq] at h2); (simp only [List.contains_cons, List.contains_nil, Bool.or_false, Bool.or_eq_false_iff, beq_eq_false_iff_ne, ne_eq] at h3); (simp [h2, h3, kstB]; done))
  k_with "one9" => (first | exact List.forall_mem_nil _ | (refine' List.forall_mem_cons.mpr ⟨?a9, ?_⟩; (case a9 => with_unfolding_all rfl); k_extra "one9"))
  k_with "offE9" => ((try dsimp only); (repeat (refine' List.forall_mem_cons.mpr ⟨?o9, ?_⟩; (case o9 => ((try dsimp only); k_ne)))); (repeat' (rename _ ∧ _ => hc9; rcases hc9 with ⟨hc8, hc7⟩)); first | exact List.forall_mem_nil _ | assumption | exact lt_ne (by assumption) | exact gt_ne (by assumption))
  k_with "rot9" => repeat' (first | exact Rot.here | refine' Rot.next ?_)
  k_with "nes8" => repeat' (first | assumption | exact List.forall_mem_nil _ | (refine' List.forall_mem_cons.mpr ⟨?m8, ?_⟩; (case m8 => dsimp only; first | exact Nat.ne_of_gt (by assumption) | exact Nat.ne_of_lt (by assumption) | assumption | exact Ne.symm (by assumption) | k_ne)) | exact lt_ne (by assumption) | refine' List.forall_mem_append.mpr ⟨?_, ?_⟩)
  k_with "offs8" => repeat' (first | assumption | exact offL_nil | exact offL_swap (by assumption) | (refine' offL_cons ?m8 ?_; (case m8 => dsimp only; first | exact lt_ne (by assumption) | (refine' lt_ne2 ?A8 ?B8; (case B8 => assumption); (case A8 => assumption)) | k_extra "ne9")) | refine' offL_app ?_ ?_)
  k_with "sel9" => repeat' (first | exact Sel.base | (refine' Sel.old ?m9 ?_; (case m9 => assumption)) | (refine' Sel.cut ?m9 ?_; (case m9 => repeat (first | exact List.mem_cons_self | refine List.mem_cons_of_mem _ ?_))) | refine' Sel.keep ?_ | refine' Sel.app ?_)
  k_with "mems9" => repeat' (first | exact List.forall_mem_nil _ | (refine' List.forall_mem_cons.mpr ⟨?m9, ?_⟩; (case m9 => k_extra "mem9")))
  k_with "isd9" => repeat' (first | (refine' dat_cons ?m9 ?_; (case m9 => first | (intro _; k_mem) | (intro q9; exact absurd q9 (dict_no (by assumption))) | (intro q9; exact absurd q9 (by simp [isDat, instObj, dictOf, itR])))) | (refine' dat_app ?m9 ?_; (case m9 => k_extra "sub9")) | (refine' dat_end ?m9; (case m9 => k_extra "sub9")))
  k_with "~execs cons" => k_extra "fold9"
  k_with "~call builtin:isinstance" => (k_here; (with_reducible show wpAny _ _ (call _ [Value.ref _, Value.type _]) _ _ _); kit_cont; k_dflt kit_objs)
  k_with "~eval Call" => k_extra "fold9"
  k_with "~eval Compare" => k_extra "fold9"
  k_with "~eval BinOp" => k_extra "fold9"
  k_with "~eval Tuple" => k_extra "fold9"
  k_with "~eval List" => k_extra "fold9"
  k_with "~eval Subscript" => k_extra "fold9"
  k_with "~eval Attribute" => k_extra "fold9"
  k_with "~eval IfExp" => k_extra "fold9"
  k_with "lt9" => first
    | with_reducible assumption
    | exact cj0 (by with_reducible assumption)
    | exact cj1 (by with_reducible assumption)
    | exact cj2 (by with_reducible assumption)
    | exact cj3 (by with_reducible assumption)
    | exact cj4 (by with_reducible assumption)
    | exact cj5 (by with_reducible assumption)
    | exact cj6 (by with_reducible assumption)
    | exact cj7 (by with_reducible assumption)
    | exact cz1 (by with_reducible assumption)
    | exact cz2 (by with_reducible assumption)
    | exact cz3 (by with_reducible assumption)
    | exact cz4 (by with_reducible assumption)
    | exact cz5 (by with_reducible assumption)
    | exact cz6 (by with_reducible assumption)
    | exact cz7 (by with_reducible assumption)
    | fail "lt9"
  k_with "om9" => first
    | with_reducible assumption
    | exact Nat.le_of_ble_eq_true rfl
    | exact Ne.symm (by with_reducible assumption)
    | ((with_reducible show (_ : Nat) ≠ _); first | exact Nat.ne_of_lt (by k_extra "lt9") | exact Nat.ne_of_gt (by k_extra "lt9"))
    | ((with_reducible show (_ : Nat) < _); first
      | exact rm1 (by with_reducible assumption) (by exact rfl)
      | exact rm0 (by with_reducible assumption)
      | exact rn1 (by with_reducible assumption) (by exact rfl)
      | exact rn3 (by with_reducible assumption) (by exact rfl)
      | exact rf2 (by with_reducible assumption) (by with_reducible assumption) (by exact rfl)
      | exact rm3 (by with_reducible assumption) (by exact rfl)
      | exact uf2 (by with_reducible assumption) (by with_reducible assumption) (by exact rfl)
      | exact um3 (by with_reducible assumption) (by exact rfl)
      | exact rf1 (by with_reducible assumption) (by with_reducible assumption) (by exact rfl)
      | exact rf3 (by with_reducible assumption) (by with_reducible assumption) (by exact rfl)
      | exact uf3 (by with_reducible assumption) (by with_reducible assumption) (by exact rfl)
      | k_extra "lt9")
    | fail "om9"
  k_with "~@k_all" => first | assumption | exact lt_ne (by assumption) | exact gt_ne (by assumption) | (refine' List.forall_mem_append.mpr ⟨?q9a, ?q9b⟩; (case q9a => k_all); (case q9b => k_all))
  k_with "~call builtin:len" => (k_here; (with_reducible show wpAny _ _ (call (Value.builtin "len") [Value.ref _]) _ _ _); (refine KM.len_K (by k_asm) (by k_dflt k_mem) rfl (by simp; omega) ?_))
  k_with "~@k_room" => ((try simp only [depth_mark, depth_under_make, depth_under_kw, depth_in1, depth_deeper, depth_caller]); (try dsimp only [ktrTop]); omega)
  k_with "~@k_units" => ((have hcL9 := cLine_is); (try simp only [units_in1, units_deeper, Around.mark_units, units_caller]); (try dsimp only [ktrTop]); omega)
  k_with "~exec While Compare cons nil" => k_extra "while!"
  k_with "~pyIter ref" => k_extra "iter!"
  k_with "~call ref" => k_extra "call!"
  k_with "~exec For Name Call cons nil" => (k_extra "for!"; k_here; (rename Fr _ _ _ _ => z9lF'); (with_unfolding_all refine' For_invVF z9lF' ?q9k1 ?q9k2 ?_; (case q9k1 => exact rfl); (case q9k2 => exact rfl); k_whole))
  k_with "~exec For Name Name cons nil" => (k_extra "for!"; k_here; (rename Fr _ _ _ _ => z9lF'); (with_unfolding_all refine' For_invVF z9lF' ?q9k1 ?q9k2 ?_; (case q9k1 => exact rfl); (case q9k2 => exact rfl); k_whole))
  k_with "~@k_mem" => first | assumption | exact List.mem_cons_self | (refine List.mem_cons_of_mem _ ?_; k_mem) | (refine List.mem_append_left _ ?_; k_mem) | (refine List.mem_append_right _ ?_; k_mem)
  k_with "~subscriptTail Name Slice ref ref" => (k_here; (with_reducible show wpAny _ _ (subscriptTail _ (PySem.Expr.Slice _ none none _) (Value.ref _) (Value.ref _)) _ _ _); k_dflt (refine' tup_from ?q9F ?q9N ?q9b ?q9o ?q9l ?q9e ?_ ?q9s ?q9t ?q9z; (case q9F => k_asm); (case q9N => k_asm); (case q9b => k_mem); (case q9o => decide); (case q9l => exact Nat.le_of_ble_eq_true rfl); (case q9e => kl_lit); (case q9s => with_unfolding_all rfl); (case q9t => (intro _; with_unfolding_all rfl)); (case q9z => (simp only [List.length_cons, List.length_nil, sizeLine_eq]; omega))); intro z9D' z9h' z9F' z9N' z9l1; (try k_lt z9l1); (try k_sweep))
  k_with "~exec For Name Subscript cons nil" => (k_here; (rename Fr _ _ _ _ => z9lF'); (with_unfolding_all refine' For_turns z9lF' ?_; k_whole))
  k_with "~exec For Name Name cons nil" => (k_extra "turns!"; k_here; (rename Fr _ _ _ _ => z9lF'); (with_unfolding_all refine' For_turns z9lF' ?_; k_whole))
  k_with "~pyIter ref" => (k_here; (with_reducible show wpAny _ _ (pyIter (Value.ref _)) (fun it s₂ => TurnsAt _ _ _ _ _ _ _ _ _ it s₂) _ _); (rename Fr _ _ _ _ => z9lF'); (rename News _ _ _ _ => z9lN'); k_dflt (refine' iter_tupTurns ?q9h z9lF' z9lN' ?q9m ?q9c ?q9d ?_; (case q9h => with_unfolding_all rfl); (case q9m => k_mem); (case q9c => exact rfl); (case q9d => exact rfl)); clear z9lF'; intro z9i' z9l1; (try k_lt z9l1))
  k_with "~pyIter ref" => (k_here; (with_reducible show wpAny _ _ (pyIter (Value.ref _)) (fun it s₂ => TurnsAt _ _ _ _ _ _ _ _ _ it s₂) _ _); (rename Fr _ _ _ _ => z9lF'); (rename News _ _ _ _ => z9lN'); k_dflt (refine' iter_listTurns ?q9h z9lF' z9lN' ?q9m ?q9c ?q9d ?_; (case q9h => with_unfolding_all rfl); (case q9m => k_mem); (case q9c => exact rfl); (case q9d => exact rfl)); clear z9lF'; intro z9i' z9l1; (try k_lt z9l1))
  k_with "~UnrEndW" => ((rename Fr _ _ _ _ => z9lF'); (rename News _ _ _ _ => z9lN'); (refine' unrEnd z9lF' z9lN' ?q9c9 ?q9o9 ⟨?q9k9, ?_⟩; (case q9c9 => repeat' (first | exact Cut.base | refine' Cut.cons ?_)); (case q9o9 => k_extra "offE9"); (case q9k9 => k_subL)); clear z9lF' z9lN')
  k_with "~@size_fits" => (simp only [List.size_toArray, List.length_append, List.length_cons, List.length_nil, sizeLine_eq]; omega)
  k_with "~call builtin:list.extend" => (k_here; (with_reducible show wpAny _ _ (call (Value.builtin _) [Value.ref _, Value.ref _]) _ _ _); k_dflt (refine' ext_list ?q9F ?q9N ?q9b ?q9ne ?q9U ?q9z ?_; (case q9F => k_asm); (case q9N => k_asm); (case q9b => k_mem); (case q9U => k_upd); (case q9ne => exact List.cons_ne_nil _ _); (case q9z => (simp only [List.length_append, List.length_cons, List.length_nil]; omega))); intro z9h' z9F' z9N'; (try k_sweep))
  k_with "~call builtin:list.pop" => (k_here; (with_reducible show wpAny _ _ (call (Value.builtin _) [Value.ref _]) _ _ _); k_dflt (refine' pop_list ?q9F ?q9N ?q9U ?q9z ?_; (case q9F => k_asm); (case q9N => k_asm); (case q9U => k_upd); (case q9z => omega)); intro z9h' z9F' z9N'; (try k_sweep))
  k_with "~exec Raise some none" => (k_here; refine raise_fault (by rfl) ?_)
  k_with "~call ref" => ((with_reducible show wpAny _ _ (call (Value.ref 44) [_]) _ _ _); k_here; k_dflt (refine' call_fault ?q9k1 ?q9k2 ?q9k3 ?_; (case q9k1 => k_asm); (case q9k2 => k_asm); (case q9k3 => k_asm); intro z9e' z9t' z9h' z9F' z9N' z9l1 z9l2 z9l3 z9n' z9k'; (try k_lt z9l1); (try k_lt2 z9l2); (try k_lt z9l3); (try k_sweep); k_enter))
  k_with "~getMethod type:Exception" => (k_here; (with_reducible refine' method_type ?q9F ?q9X exc_kind exc_stub ?q9e ?q9h ?_); k_dflt ((case q9F => k_asm); (case q9X => k_asm); (case q9e => k_is); (case q9h => k_handed)))
  k_with "~call builtin:Exception.__init__" => (k_here; k_dflt (refine' exc_init ?q9F ?q9X ?q9N ?q9U ?_; (case q9F => k_asm); (case q9X => k_asm); (case q9N => k_asm); (case q9U => k_updF); intro z9t' z9h' z9F' z9N'; (try dsimp only at z9N'); (try k_sweep)))
  k_with "~setAttr ref" => ((with_reducible show wpAny _ _ (setAttr (Value.ref _) (PySem.Str.ofString "text") _) _ _ _); k_here; k_dflt (refine' set_text ?q9T ?q9F ?q9X ?q9N ?q9U ?_; (case q9T => rfl); (case q9F => k_asm); (case q9X => k_asm); (case q9N => k_asm); (case q9U => k_updF); intro z9d' z9h' z9tk' z9F' z9N'; (try dsimp only at z9N'); (try k_sweep)))
  k_with "~exec Raise some none" => (k_here; k_dflt (refine raise_fault' (by rfl) ?_))
  k_with "~Raises44" => (k_here; k_dflt (refine' raises_of ?q9F ?q9X ?q9N ?q9m ?_; (case q9F => k_asm); (case q9X => k_asm); (case q9N => k_asm); (case q9m => k_mem)))
  k_with "~leaving ref" => (k_here; k_dflt (refine' leave_newB ?q9k1 ?q9k2 ?q9k3 ?q9k4 ?_; (case q9k1 => assumption); (case q9k2 => assumption); (case q9k3 => assumption); (case q9k4 => k_mem); k_whole; intro z9h' z9R' z9U'; (try dsimp only at z9R' z9U' ⊢)))
  k_with "~compareOp NotIn str ref" => (k_here; k_dflt (first
    | refine kdg_notin (knd := PySem.strKind _ _) (by k_asm) (by k_mem) (by assumption) (by assumption) (strKind_is _ _ _ _) true (by rw [‹valueAt _ _ = some _›]; rfl) ?_
    | refine kdg_notin (knd := PySem.strKind _ _) (by k_asm) (by k_mem) (by assumption) (by assumption) (strKind_is _ _ _ _) false (by rw [‹valueAt _ _ = none›]; rfl) ?_); (try dsimp only [Bool.not_true, Bool.not_false]))
  k_with "~compareOp In str ref" => (k_here; k_dflt (first
    | refine kda_in (knd := PySem.strKind _ _) (by k_asm) (by k_mem) (by assumption) (by assumption) (strKind_is _ _ _ _) true (by rw [‹valueAt _ _ = some _›]; rfl) ?_
    | refine kda_in (knd := PySem.strKind _ _) (by k_asm) (by k_mem) (by assumption) (by assumption) (strKind_is _ _ _ _) false (by rw [‹valueAt _ _ = none›]; rfl) ?_))
  k_with "~subscriptTail" => (k_here; k_dflt ((with_reducible show wpAny _ _ (subscriptTail _ _ (Value.ref _) (Value.str _ _)) _ _ _); refine kda_item (knd := PySem.strKind _ _) (by k_asm) (by k_mem) (by assumption) (strKind_is _ _ _ _) (by assumption) ?_))
  k_with "~subscriptTail" => (k_here; (with_reducible show wpAny _ _ (subscriptTail _ _ (Value.ref _) (Value.int 1 _)) _ _ _); k_dflt (refine item_kind (by k_asm) (by assumption) (by k_extra "sub9") ?_ (by with_unfolding_all rfl) (by intro _; with_unfolding_all rfl)); intro z9t')
  trivial
noncomputable def bindT (r : Option (Ty × Nat)) (f : Ty → Nat → Option (Ty × Nat)) : Option (Ty × Nat) :=
  match r with
  | some (t, c) => f t c
  | none => none
theorem EvP.mk3 {S tl8 tl9 : List (Addr × Obj)} {x : Addr × Obj} {sp : Addr} {t : Ty} {c : Nat} {tc : Tok} {nn : Nat} {r : Value} {res : Option (Ty × Nat)} (hf : res = some (t, c)) (h : x.1 ≠ sp) (hx : ∀ p ∈ tl8 ++ (tl9 ++ S), p.1 ≠ x.1) (h8 : ∀ p ∈ tl8, p.1 ≠ sp) (o8 : OffL tl8 (tl9 ++ S)) (h9 : ∀ p ∈ tl9, p.1 ≠ sp) (o9 : OffL tl9 S) (hd : DatIn (x :: (tl8 ++ (tl9 ++ S))) r t.dat) :
    EvP S sp res r (cel sp c tc nn :: x :: (tl8 ++ (tl9 ++ S))) :=
  ⟨t, c, x :: (tl8 ++ tl9), tc, nn, hf, by rw [List.cons_append, List.append_assoc], List.forall_mem_cons.mpr ⟨h, List.forall_mem_append.mpr ⟨h8, h9⟩⟩,
    List.forall_mem_cons.mpr ⟨fun q hq e => hx q (List.mem_append_right _ (List.mem_append_right _ hq)) e.symm, List.forall_mem_append.mpr ⟨fun p hp q hq => o8 p hp q (List.mem_append_right _ hq), o9⟩⟩, by rw [List.cons_append, List.append_assoc]; exact hd⟩
theorem rbinary (w : World) (p : Bool) (al ar : Addr) (sc sp : Addr) (fr : Nat) (hfr : 8 ≤ fr) (S : List (Addr × Obj)) (c : Nat) (tc : Tok) (nn : Nat) (res : Option (Ty × Nat)) (res2 : Nat → Option (Ty × Nat)) (t0 : Tok)
    (C : Tel w 285 [.ref al, .ref sc] fr (cel sp c tc nn :: S) (EvP S sp res) (res = none))
    (C2 : ∀ t c' tl tc' nn', res = some (t, c') → (∀ p ∈ tl, p.1 ≠ sp) → OffL tl S → Tel w 285 [.ref ar, .ref sc] fr (cel sp c' tc' nn' :: (tl ++ S)) (EvP (tl ++ S) sp (res2 c')) (res2 c' = none)) :
    Tel w 271 [.str (sgn p) t0, .ref al, .ref ar, .ref sc] (fr + 2) (cel sp c tc nn :: S) (EvP S sp (bindT res fun t c => mapT (Ty.bi p t) (res2 c))) ((bindT res fun t c => mapT (Ty.bi p t) (res2 c)) = none) := by
  have lp : Challenge.rw_pq0356_01.foot = Challenge.rw_pq0356_01.foot ∧ hd.heap_39 = hd.heap_39 := by k_fill; exact ⟨rfl, rfl⟩
  clear lp
  intro mean mg mb dp un gd cn cs a' ccd cl outer A₀ base h₀ L m s Q E B F X N T hk hdp hun hret hexc
  k_with "call!" => ((with_reducible show wpAny _ _ (call (Value.ref 285) _) _ _ _); refine Stop.out ?_)
  refine wpAny_call ?_
  k_dflt ktr_enter
  k_steps
  refine Stop.on ?_
  k_dflt (refine tel_go (by k_asm) (by k_asm) (by k_asm) (by k_asm) (by rfl) (by k_asm) C (by k_room) (by k_units) ?_ ?_)
  · rintro r9 news9 h9 tk9 F9 N9 ⟨t, c9, tl9, tc9, nn9, rfl, rfl, ho9, hof9, hd9⟩
    obtain ⟨a9, rfl⟩ := Ty.hin hd9
    k_steps
    refine Stop.on ?_
    k_dflt (refine tel_go (by k_asm) (by k_asm) (by k_asm) (by k_asm) (by rfl) (by k_asm) (C2 _ _ _ _ _ rfl ho9 hof9) (by k_room) (by k_units) ?_ ?_)
    · rintro r8 news8 h8 tk8 F8 N8 ⟨t8, c8, tl8, tc8, nn8, hr8, rfl, ho8, hof8, hd8⟩
      obtain ⟨a8, rfl⟩ := Ty.hin hd8
      have hf8 : bindT (some (t, c9)) (fun t c => mapT (Ty.bi p t) (res2 c)) = some (.bi p t t8, c8) := by simp only [bindT]; rw [hr8]; rfl
      cases p
      all_goals
        k_steps
        k_extra "and9"
        refine hret _ (cel sp c8 tc8 nn8 :: _ :: (tl8 ++ (tl9 ++ S))) _ _ (by assumption) (news_sub (by assumption) (List.forall_mem_cons.mpr ⟨by k_mem, List.forall_mem_cons.mpr ⟨List.mem_cons_self, by k_extra "sub9"⟩⟩)) (EvP.mk3 hf8 ?o9 ?o7 ho8 hof8 ho9 hof9 ?d9)
        case o9 => ((try dsimp only); (first | assumption | exact Nat.ne_of_gt (by assumption)))
        case o7 => exact lt_ne (by assumption)
        case d9 => rw [Ty.dat]; k_extra "dat9"
    · intro hx e9 h9 tk9 Fl9
      exact fly_on Fl9 (by assumption) (by assumption) (fun h' Fl' => hexc (by show mapT _ _ = none; exact mapT_none.mpr hx) _ _ _ Fl')
  · intro hx e9 h9 tk9 Fl9
    exact fly_on Fl9 (by assumption) (by assumption) (fun h' Fl' => hexc (by rw [hx]; rfl) _ _ _ Fl')
theorem reg_words_Ref : True := by
  k_with_none
  w_top off
  k_with "for!" => fail "no word"
  k_with "memr9" => first
    | with_reducible assumption
    | with_reducible exact List.mem_cons_self
    | (with_reducible refine List.mem_cons_of_mem _ ?_; k_extra "memr9")
    | (with_reducible refine List.mem_append_right _ ?_; k_extra "memr9")
    | (with_reducible refine List.mem_append_left _ ?_; k_extra "memr9")
  k_with "mem9" => first
    | k_extra "memr9"
    | assumption
    | k_mem
    | (simp only [List.mem_cons, List.mem_append] at *; simp only [*, true_or, or_true])
    | grind
  k_with "sub8" => first
    | exact List.forall_mem_nil _
    | (refine' List.forall_mem_cons.mpr ⟨?m8, ?_⟩; (case m8 => k_mem); k_extra "sub8")
    | (refine' List.forall_mem_append.mpr ⟨?m8, ?_⟩; (case m8 => k_extra "sub8"); k_extra "sub8")
    | (intro p8 h8; k_mem)
  k_with "sub9" => first
    | k_extra "sub8"
    | (intro p9 h9; first
      | exact h9
      | (simp only [List.mem_cons, List.mem_append] at h9 ⊢; grind))
  k_with "dat9" => repeat' (first
    | exact DatIn.str _ _
    | exact DatIn.int _ _
    | exact DatAll.nil
    | assumption
    | (refine' DatAll.cons ?_ ?_)
    | (refine' DatIn.tuple ?m9 ?_; (case m9 => k_extra "mem9"))
    | (refine' DatIn.list ?m9 ?_; (case m9 => k_extra "mem9"))
    | (refine' DatIn.mono ?s9 ?h9; (case h9 => assumption); (case s9 => k_extra "sub9")))
  k_with "and9" => first
    | ((fail_if_success (fail_if_success (rename _ ∧ _ => hc9))); refine foldP (fun G9 hG9 => ?_); (repeat' (rename _ ∧ _ => hc9; refine and_go hc9 (fun hc8 hc7 => ?_); clear hc9)); refine hG9 ?_; clear hG9 G9)
    | skip
  k_with "fold9" => ((fail_if_success (fail_if_success k_fold)); refine (let q9 := _; let e9 := _; (?_ : wpAny _ _ _ q9 e9 _)))
  k_with "ne9" => first
    | assumption
    | (refine' ne_all ?h9 ?s9; (case h9 => assumption); (case s9 => k_extra "sub9"))
    | (refine' ne_allT ?h9 ?s9; (case h9 => assumption); (case s9 => k_extra "sub9"))
  k_with "off9" => (
    refine' off_of ?_
    repeat' (first
    | exact offL_nil
    | (refine' offL_sub ?h9 ?s9; (case h9 => assumption); (case s9 => k_extra "sub9"))
    | (refine' offL_cons ?o9 ?_; (case o9 => k_extra "ne9"))
    | (refine' offL_app ?_ ?_)))
  k_with "split9" => first | exact Split.base | (refine Split.cons ?_; k_extra "split9") | (refine Split.app ?_; k_extra "split9")
  k_with "same9" => (intro z9 h1 h2 h3; (simp only [List.mem_cons, List.not_mem_nil, or_false, forall_eq_or_imp, forall_eq] at h2); (simp only [List.contains_cons, List.contains_nil, Bool.or_false, Bool.or_eq_false_iff, beq_eq_false_iff_ne, ne_eq] at h3); (simp [h1, h2, h3, kstB]; done))
  k_with "sameW9" => (intro z9 h2 h3; (simp only [List.mem_cons, List.not_mem_nil, or_false, forall_eq_or_imp, forall_eq] at h2); (simp only [List.contains_cons, List.contains_nil, Bool.or_false, Bool.or_eq_false_iff, beq_eq_false_iff_ne, ne_eq] at h3); (simp [h2, h3, kstB]; done))
  k_with "one9" => (first | exact List.forall_mem_nil _ | (refine' List.forall_mem_cons.mpr ⟨?a9, ?_⟩; (case a9 => with_unfolding_all rfl); k_extra "one9"))
  k_with "offE9" => ((try dsimp only); (repeat (refine' List.forall_mem_cons.mpr ⟨?o9, ?_⟩; (case o9 => ((try dsimp only); k_ne)))); (repeat' (rename _ ∧ _ => hc9; rcases hc9 with ⟨hc8, hc7⟩)); first | exact List.forall_mem_nil _ | assumption | exact lt_ne (by assumption) | exact gt_ne (by assumption))
  k_with "rot9" => repeat' (first | exact Rot.here | refine' Rot.next ?_)
  k_with "nes8" => repeat' (first | assumption | exact List.forall_mem_nil _ | (refine' List.forall_mem_cons.mpr ⟨?m8, ?_⟩; (case m8 => dsimp only; first | exact Nat.ne_of_gt (by assumption) | exact Nat.ne_of_lt (by assumption) | assumption | exact Ne.symm (by assumption) | k_ne)) | exact lt_ne (by assumption) | refine' List.forall_mem_append.mpr ⟨?_, ?_⟩)
  k_with "offs8" => repeat' (first | assumption | exact offL_nil | exact offL_swap (by assumption) | (refine' offL_cons ?m8 ?_; (case m8 => dsimp only; first | exact lt_ne (by assumption) | (refine' lt_ne2 ?A8 ?B8; (case B8 => assumption); (case A8 => assumption)) | k_extra "ne9")) | refine' offL_app ?_ ?_)
  k_with "sel9" => repeat' (first | exact Sel.base | (refine' Sel.old ?m9 ?_; (case m9 => assumption)) | (refine' Sel.cut ?m9 ?_; (case m9 => repeat (first | exact List.mem_cons_self | refine List.mem_cons_of_mem _ ?_))) | refine' Sel.keep ?_ | refine' Sel.app ?_)
  k_with "mems9" => repeat' (first | exact List.forall_mem_nil _ | (refine' List.forall_mem_cons.mpr ⟨?m9, ?_⟩; (case m9 => k_extra "mem9")))
  k_with "isd9" => repeat' (first | (refine' dat_cons ?m9 ?_; (case m9 => first | (intro _; k_mem) | (intro q9; exact absurd q9 (dict_no (by assumption))) | (intro q9; exact absurd q9 (by simp [isDat, instObj, dictOf, itR])))) | (refine' dat_app ?m9 ?_; (case m9 => k_extra "sub9")) | (refine' dat_end ?m9; (case m9 => k_extra "sub9")))
  k_with "~execs cons" => k_extra "fold9"
  k_with "~call builtin:isinstance" => (k_here; (with_reducible show wpAny _ _ (call _ [Value.ref _, Value.type _]) _ _ _); kit_cont; k_dflt kit_objs)
  k_with "~eval Call" => k_extra "fold9"
  k_with "~eval Compare" => k_extra "fold9"
  k_with "~eval BinOp" => k_extra "fold9"
  k_with "~eval Tuple" => k_extra "fold9"
  k_with "~eval List" => k_extra "fold9"
  k_with "~eval Subscript" => k_extra "fold9"
  k_with "~eval Attribute" => k_extra "fold9"
  k_with "~eval IfExp" => k_extra "fold9"
  k_with "lt9" => first
    | with_reducible assumption
    | exact cj0 (by with_reducible assumption)
    | exact cj1 (by with_reducible assumption)
    | exact cj2 (by with_reducible assumption)
    | exact cj3 (by with_reducible assumption)
    | exact cj4 (by with_reducible assumption)
    | exact cj5 (by with_reducible assumption)
    | exact cj6 (by with_reducible assumption)
    | exact cj7 (by with_reducible assumption)
    | exact cz1 (by with_reducible assumption)
    | exact cz2 (by with_reducible assumption)
    | exact cz3 (by with_reducible assumption)
    | exact cz4 (by with_reducible assumption)
    | exact cz5 (by with_reducible assumption)
    | exact cz6 (by with_reducible assumption)
    | exact cz7 (by with_reducible assumption)
    | fail "lt9"
  k_with "om9" => first
    | with_reducible assumption
    | exact Nat.le_of_ble_eq_true rfl
    | exact Ne.symm (by with_reducible assumption)
    | ((with_reducible show (_ : Nat) ≠ _); first | exact Nat.ne_of_lt (by k_extra "lt9") | exact Nat.ne_of_gt (by k_extra "lt9"))
    | ((with_reducible show (_ : Nat) < _); first
      | exact rm1 (by with_reducible assumption) (by exact rfl)
      | exact rm0 (by with_reducible assumption)
      | exact rn1 (by with_reducible assumption) (by exact rfl)
      | exact rn3 (by with_reducible assumption) (by exact rfl)
      | exact rf2 (by with_reducible assumption) (by with_reducible assumption) (by exact rfl)
      | exact rm3 (by with_reducible assumption) (by exact rfl)
      | exact uf2 (by with_reducible assumption) (by with_reducible assumption) (by exact rfl)
      | exact um3 (by with_reducible assumption) (by exact rfl)
      | exact rf1 (by with_reducible assumption) (by with_reducible assumption) (by exact rfl)
      | exact rf3 (by with_reducible assumption) (by with_reducible assumption) (by exact rfl)
      | exact uf3 (by with_reducible assumption) (by with_reducible assumption) (by exact rfl)
      | k_extra "lt9")
    | fail "om9"
  k_with "~@k_all" => first | assumption | exact lt_ne (by assumption) | exact gt_ne (by assumption) | (refine' List.forall_mem_append.mpr ⟨?q9a, ?q9b⟩; (case q9a => k_all); (case q9b => k_all))
  k_with "~call builtin:len" => (k_here; (with_reducible show wpAny _ _ (call (Value.builtin "len") [Value.ref _]) _ _ _); (refine KM.len_K (by k_asm) (by k_dflt k_mem) rfl (by simp; omega) ?_))
  k_with "~@k_room" => ((try simp only [depth_mark, depth_under_make, depth_under_kw, depth_in1, depth_deeper, depth_caller]); (try dsimp only [ktrTop]); omega)
  k_with "~@k_units" => ((have hcL9 := cLine_is); (try simp only [units_in1, units_deeper, Around.mark_units, units_caller]); (try dsimp only [ktrTop]); omega)
  k_with "~exec While Compare cons nil" => k_extra "while!"
  k_with "~pyIter ref" => k_extra "iter!"
  k_with "~call ref" => k_extra "call!"
  k_with "~exec For Name Call cons nil" => (k_extra "for!"; k_here; (rename Fr _ _ _ _ => z9lF'); (with_unfolding_all refine' For_invVF z9lF' ?q9k1 ?q9k2 ?_; (case q9k1 => exact rfl); (case q9k2 => exact rfl); k_whole))
  k_with "~exec For Name Name cons nil" => (k_extra "for!"; k_here; (rename Fr _ _ _ _ => z9lF'); (with_unfolding_all refine' For_invVF z9lF' ?q9k1 ?q9k2 ?_; (case q9k1 => exact rfl); (case q9k2 => exact rfl); k_whole))
  k_with "~@k_mem" => first | assumption | exact List.mem_cons_self | (refine List.mem_cons_of_mem _ ?_; k_mem) | (refine List.mem_append_left _ ?_; k_mem) | (refine List.mem_append_right _ ?_; k_mem)
  k_with "~subscriptTail Name Slice ref ref" => (k_here; (with_reducible show wpAny _ _ (subscriptTail _ (PySem.Expr.Slice _ none none _) (Value.ref _) (Value.ref _)) _ _ _); k_dflt (refine' tup_from ?q9F ?q9N ?q9b ?q9o ?q9l ?q9e ?_ ?q9s ?q9t ?q9z; (case q9F => k_asm); (case q9N => k_asm); (case q9b => k_mem); (case q9o => decide); (case q9l => exact Nat.le_of_ble_eq_true rfl); (case q9e => kl_lit); (case q9s => with_unfolding_all rfl); (case q9t => (intro _; with_unfolding_all rfl)); (case q9z => (simp only [List.length_cons, List.length_nil, sizeLine_eq]; omega))); intro z9D' z9h' z9F' z9N' z9l1; (try k_lt z9l1); (try k_sweep))
  k_with "~exec For Name Subscript cons nil" => (k_here; (rename Fr _ _ _ _ => z9lF'); (with_unfolding_all refine' For_turns z9lF' ?_; k_whole))
  k_with "~exec For Name Name cons nil" => (k_extra "turns!"; k_here; (rename Fr _ _ _ _ => z9lF'); (with_unfolding_all refine' For_turns z9lF' ?_; k_whole))
  k_with "~pyIter ref" => (k_here; (with_reducible show wpAny _ _ (pyIter (Value.ref _)) (fun it s₂ => TurnsAt _ _ _ _ _ _ _ _ _ it s₂) _ _); (rename Fr _ _ _ _ => z9lF'); (rename News _ _ _ _ => z9lN'); k_dflt (refine' iter_tupTurns ?q9h z9lF' z9lN' ?q9m ?q9c ?q9d ?_; (case q9h => with_unfolding_all rfl); (case q9m => k_mem); (case q9c => exact rfl); (case q9d => exact rfl)); clear z9lF'; intro z9i' z9l1; (try k_lt z9l1))
  k_with "~pyIter ref" => (k_here; (with_reducible show wpAny _ _ (pyIter (Value.ref _)) (fun it s₂ => TurnsAt _ _ _ _ _ _ _ _ _ it s₂) _ _); (rename Fr _ _ _ _ => z9lF'); (rename News _ _ _ _ => z9lN'); k_dflt (refine' iter_listTurns ?q9h z9lF' z9lN' ?q9m ?q9c ?q9d ?_; (case q9h => with_unfolding_all rfl); (case q9m => k_mem); (case q9c => exact rfl); (case q9d => exact rfl)); clear z9lF'; intro z9i' z9l1; (try k_lt z9l1))
  k_with "~UnrEndW" => ((rename Fr _ _ _ _ => z9lF'); (rename News _ _ _ _ => z9lN'); (refine' unrEnd z9lF' z9lN' ?q9c9 ?q9o9 ⟨?q9k9, ?_⟩; (case q9c9 => repeat' (first | exact Cut.base | refine' Cut.cons ?_)); (case q9o9 => k_extra "offE9"); (case q9k9 => k_subL)); clear z9lF' z9lN')
  k_with "~@size_fits" => (simp only [List.size_toArray, List.length_append, List.length_cons, List.length_nil, sizeLine_eq]; omega)
  k_with "~call builtin:list.extend" => (k_here; (with_reducible show wpAny _ _ (call (Value.builtin _) [Value.ref _, Value.ref _]) _ _ _); k_dflt (refine' ext_list ?q9F ?q9N ?q9b ?q9ne ?q9U ?q9z ?_; (case q9F => k_asm); (case q9N => k_asm); (case q9b => k_mem); (case q9U => k_upd); (case q9ne => exact List.cons_ne_nil _ _); (case q9z => (simp only [List.length_append, List.length_cons, List.length_nil]; omega))); intro z9h' z9F' z9N'; (try k_sweep))
  k_with "~call builtin:list.pop" => (k_here; (with_reducible show wpAny _ _ (call (Value.builtin _) [Value.ref _]) _ _ _); k_dflt (refine' pop_list ?q9F ?q9N ?q9U ?q9z ?_; (case q9F => k_asm); (case q9N => k_asm); (case q9U => k_upd); (case q9z => omega)); intro z9h' z9F' z9N'; (try k_sweep))
  k_with "~exec Raise some none" => (k_here; refine raise_fault (by rfl) ?_)
  k_with "~call ref" => ((with_reducible show wpAny _ _ (call (Value.ref 44) [_]) _ _ _); k_here; k_dflt (refine' call_fault ?q9k1 ?q9k2 ?q9k3 ?_; (case q9k1 => k_asm); (case q9k2 => k_asm); (case q9k3 => k_asm); intro z9e' z9t' z9h' z9F' z9N' z9l1 z9l2 z9l3 z9n' z9k'; (try k_lt z9l1); (try k_lt2 z9l2); (try k_lt z9l3); (try k_sweep); k_enter))
  k_with "~getMethod type:Exception" => (k_here; (with_reducible refine' method_type ?q9F ?q9X exc_kind exc_stub ?q9e ?q9h ?_); k_dflt ((case q9F => k_asm); (case q9X => k_asm); (case q9e => k_is); (case q9h => k_handed)))
  k_with "~call builtin:Exception.__init__" => (k_here; k_dflt (refine' exc_init ?q9F ?q9X ?q9N ?q9U ?_; (case q9F => k_asm); (case q9X => k_asm); (case q9N => k_asm); (case q9U => k_updF); intro z9t' z9h' z9F' z9N'; (try dsimp only at z9N'); (try k_sweep)))
  k_with "~setAttr ref" => ((with_reducible show wpAny _ _ (setAttr (Value.ref _) (PySem.Str.ofString "text") _) _ _ _); k_here; k_dflt (refine' set_text ?q9T ?q9F ?q9X ?q9N ?q9U ?_; (case q9T => rfl); (case q9F => k_asm); (case q9X => k_asm); (case q9N => k_asm); (case q9U => k_updF); intro z9d' z9h' z9tk' z9F' z9N'; (try dsimp only at z9N'); (try k_sweep)))
  k_with "~exec Raise some none" => (k_here; k_dflt (refine raise_fault' (by rfl) ?_))
  k_with "~Raises44" => (k_here; k_dflt (refine' raises_of ?q9F ?q9X ?q9N ?q9m ?_; (case q9F => k_asm); (case q9X => k_asm); (case q9N => k_asm); (case q9m => k_mem)))
  k_with "~leaving ref" => (k_here; k_dflt (refine' leave_newB ?q9k1 ?q9k2 ?q9k3 ?q9k4 ?_; (case q9k1 => assumption); (case q9k2 => assumption); (case q9k3 => assumption); (case q9k4 => k_mem); k_whole; intro z9h' z9R' z9U'; (try dsimp only at z9R' z9U' ⊢)))
  k_with "~compareOp NotIn str ref" => (k_here; k_dflt (first
    | refine kdg_notin (knd := PySem.strKind _ _) (by k_asm) (by k_mem) (by assumption) (by assumption) (strKind_is _ _ _ _) true (by rw [‹valueAt _ _ = some _›]; rfl) ?_
    | refine kdg_notin (knd := PySem.strKind _ _) (by k_asm) (by k_mem) (by assumption) (by assumption) (strKind_is _ _ _ _) false (by rw [‹valueAt _ _ = none›]; rfl) ?_); (try dsimp only [Bool.not_true, Bool.not_false]))
  k_with "~compareOp In str ref" => (k_here; k_dflt (first
    | refine kda_in (knd := PySem.strKind _ _) (by k_asm) (by k_mem) (by assumption) (by assumption) (strKind_is _ _ _ _) true (by rw [‹valueAt _ _ = some _›]; rfl) ?_
    | refine kda_in (knd := PySem.strKind _ _) (by k_asm) (by k_mem) (by assumption) (by assumption) (strKind_is _ _ _ _) false (by rw [‹valueAt _ _ = none›]; rfl) ?_))
  k_with "~subscriptTail" => (k_here; k_dflt ((with_reducible show wpAny _ _ (subscriptTail _ _ (Value.ref _) (Value.str _ _)) _ _ _); refine kda_item (knd := PySem.strKind _ _) (by k_asm) (by k_mem) (by assumption) (strKind_is _ _ _ _) (by assumption) ?_))
  k_with "~subscriptTail" => (k_here; (with_reducible show wpAny _ _ (subscriptTail _ _ (Value.ref _) (Value.int 1 _)) _ _ _); k_dflt (refine item_kind (by k_asm) (by assumption) (by k_extra "sub9") ?_ (by with_unfolding_all rfl) (by intro _; with_unfolding_all rfl)); intro z9t')
  trivial
theorem fly_onX {M : Model} {A : Around} {E : Value → Shared → Prop} {s' : Shared} {base g h₀ : Heap} {outer : List Env} {L L' a e : Addr} {m m' : Str → Option Value} {name : Str} {scope : Scope} {cd : Value} {cl : List (Str × Addr)} {Q : Unit → Shared → Prop}
    (Fl : Flies base (envX name scope L' a cd cl :: outer) g L' m' e s'.heap) (B : Below A base outer g) (FG : Fr h₀ L g m)
    (k : ∀ h', Flies base outer h₀ L m e h' → Q () { s' with heap := h' }) :
    wpAny M (A.deeper (envX name scope L' a cd cl)) (leaving (envX name scope L' a cd cl) (.ref e)) Q E s' := by
  obtain ⟨g₂, F₂, U, R⟩ := Fl
  obtain ⟨B', a0, hB, hl, hfl⟩ := R
  exact wpAny_leaves_onW (Around.frames_deeper B.stack) rfl hfl fun h' x1 x2 => k h' ⟨g, FG, (Heap.UpToSlots.of_keeps F₂.keep).trans (U.trans x2), ⟨B', a0, hB, hl, x1⟩⟩
theorem rref (w : World) (sc sy lim gv op sp a al : Addr) (hi : Int) (S : List (Addr × Obj)) (kg kvs : List (Str × Value)) (nm : Str) (tn : Tok) (val : Value) (fr : Nat) (hfr : 8 ≤ fr) (P : Value → List (Addr × Obj) → Prop) (Ex : Prop) (hsc : ScoAt w S sc sy lim gv op sp hi) (hg : DicAt w S gv kg) (hkg : valueAt kg nm = none)
    (hsy : DicAt w S sy kvs) (hz : valueAt kvs nm = some (.ref a)) (hs : SymAt w S a nm "stfunc" val) (hP : ∀ r n, P r n → handedIn r = true)
    (C : Tel w 215 [.ref a, .ref al, .ref sc] fr S P Ex) :
    Tel w 187 [.str nm tn, .ref al, .ref sc] (fr + 2) S P Ex := by
  have lp : Challenge.rw_pq0356_01.foot = Challenge.rw_pq0356_01.foot ∧ hd.heap_39 = hd.heap_39 := by k_fill; exact ⟨rfl, rfl⟩
  clear lp
  intro mean mg mb dp un gd cn cs a' ccd cl outer A₀ base h₀ L m s Q E B F X N T hk hdp hun hret hexc
  have hsy' := hsy
  have hsc' := hsc
  obtain ⟨d, u1, u2, u3, u4, u5, u6, u7, uh, m1, m2⟩ := hsc'
  obtain ⟨o, m3, hdo, lo⟩ := hg
  obtain ⟨ds, dm, t, m5, m6⟩ := hs
  have N2 : News h₀ L s.heap ((a, instObj 324 ds) :: (ds, symD w nm "stfunc" val dm t 9) :: (sc, instObj 122 d) :: (d, scoD w sy lim gv op sp hi u1 u2 u3 u4 u5 u6 u7 uh) :: S) := news_sub N (by k_extra "sub9")
  clear N
  k_with "call!" => ((first | (with_reducible show wpAny _ _ (call (Value.ref 133) _) _ _ _) | (with_reducible show wpAny _ _ (call (Value.ref 215) _) _ _ _)); refine Stop.out ?_)
  refine wpAny_call ?_
  k_dflt (refine' code_defC ?k1 ?k2 ?k3 ?k4 ?k5 ?kA ?kF ?kK ?k6 ?k7 ?k8 ?k9 ?kB ?kD ?_ ?c2 ?c3 ?c4; (case kA => exact rfl); (case kF => exact rfl); (case kK => assumption); (case k1 => k_asm); (case k2 => k_asm); (case k3 => k_asm); (case k4 => k_asm); (case k5 => k_asm); (case k6 => k_is); (case k7 => k_is); (case k8 => ktr_room); (case k9 => exact BindsTo.of_eq rfl); (case kB => exact rfl); (case kD => decide +kernel); (case c2 => exact rfl); (case c3 => exact rfl); (case c4 => exact rfl); k_whole; intro g' L' h' tk' cells' FG' F' N' Y' B' X' T' l1; (try k_lt l1); k_cells Y'; (try simp only [List.cons_append, List.nil_append] at N'); (try dsimp only); (try k_lift B'); (try k_extra "fold9"))
  k_steps
  refine Stop.on ?_
  k_dflt (refine tel_go (by k_asm) (by k_asm) (by k_asm) (by k_asm) (by rfl) (by k_asm) (symbol_of w sc sy lim gv op sp hi _ kvs nm _ a (hsc.mono (by k_extra "sub9")) (hsy.mono (by k_extra "sub9")) hz) (by k_room) (by k_units) ?_ (fun h9 => h9.elim))
  rintro r9 news9 h9 tk9 F9 N9 ⟨rfl, rfl⟩
  k_steps
  refine Stop.on ?_
  rename News _ _ _ _ => N9
  replace N9 := news_sub (l' := S) N9 (by k_extra "sub9")
  k_dflt (refine tel_go (by k_asm) (by k_asm) (by k_asm) (by k_asm) (by rfl) (by k_asm) C (by k_room) (by k_units) ?_ ?_)
  · rintro r9 news9 h9 tk9 F9 N9 hp9
    have hh9 := hP _ _ hp9
    k_steps
    exact hret _ _ _ _ (by assumption) (by assumption) hp9
  · intro hx e9 h9 tk9 Fl9
    exact fly_onX Fl9 (by assumption) (by assumption) (fun h' Fl' => hexc hx _ _ _ Fl')
theorem reg_words_Led : True := by
  k_with_none
  w_top off
  k_with "~@k_all" => first | assumption | exact lt_ne (by assumption) | exact gt_ne (by assumption) | (refine' List.forall_mem_append.mpr ⟨?q9a, ?q9b⟩; (case q9a => k_all); (case q9b => k_all))
  k_with "~call builtin:len" => (k_here; (with_reducible show wpAny _ _ (call (Value.builtin "len") [Value.ref _]) _ _ _); (refine KM.len_K (by k_asm) (by k_dflt k_mem) rfl (by simp; omega) ?_))
  k_with "~@k_room" => ((try simp only [depth_mark, depth_under_make, depth_under_kw, depth_in1, depth_deeper, depth_caller]); (try dsimp only [ktrTop]); omega)
  k_with "~@k_units" => ((have hcL9 := cLine_is); (try simp only [units_in1, units_deeper, Around.mark_units, units_caller]); (try dsimp only [ktrTop]); omega)
  k_with "~exec While Compare cons nil" => k_extra "while!"
  k_with "~pyIter ref" => k_extra "iter!"
  k_with "~call ref" => k_extra "call!"
  k_with "~exec For Name Call cons nil" => (k_extra "for!"; k_here; (rename Fr _ _ _ _ => z9lF'); (with_unfolding_all refine' For_invVF z9lF' ?q9k1 ?q9k2 ?_; (case q9k1 => exact rfl); (case q9k2 => exact rfl); k_whole))
  k_with "~exec For Name Name cons nil" => (k_extra "for!"; k_here; (rename Fr _ _ _ _ => z9lF'); (with_unfolding_all refine' For_invVF z9lF' ?q9k1 ?q9k2 ?_; (case q9k1 => exact rfl); (case q9k2 => exact rfl); k_whole))
  k_with "~@k_mem" => first | assumption | exact List.mem_cons_self | (refine List.mem_cons_of_mem _ ?_; k_mem) | (refine List.mem_append_left _ ?_; k_mem) | (refine List.mem_append_right _ ?_; k_mem)
  k_with "~subscriptTail Name Slice ref ref" => (k_here; (with_reducible show wpAny _ _ (subscriptTail _ (PySem.Expr.Slice _ none none _) (Value.ref _) (Value.ref _)) _ _ _); k_dflt (refine' tup_from ?q9F ?q9N ?q9b ?q9o ?q9l ?q9e ?_ ?q9s ?q9t ?q9z; (case q9F => k_asm); (case q9N => k_asm); (case q9b => k_mem); (case q9o => decide); (case q9l => exact Nat.le_of_ble_eq_true rfl); (case q9e => kl_lit); (case q9s => with_unfolding_all rfl); (case q9t => (intro _; with_unfolding_all rfl)); (case q9z => (simp only [List.length_cons, List.length_nil, sizeLine_eq]; omega))); intro z9D' z9h' z9F' z9N' z9l1; (try k_lt z9l1); (try k_sweep))
  k_with "~exec For Name Subscript cons nil" => (k_here; (rename Fr _ _ _ _ => z9lF'); (with_unfolding_all refine' For_turns z9lF' ?_; k_whole))
  k_with "~exec For Name Name cons nil" => (k_extra "turns!"; k_here; (rename Fr _ _ _ _ => z9lF'); (with_unfolding_all refine' For_turns z9lF' ?_; k_whole))
  k_with "~pyIter ref" => (k_here; (with_reducible show wpAny _ _ (pyIter (Value.ref _)) (fun it s₂ => TurnsAt _ _ _ _ _ _ _ _ _ it s₂) _ _); (rename Fr _ _ _ _ => z9lF'); (rename News _ _ _ _ => z9lN'); k_dflt (refine' iter_tupTurns ?q9h z9lF' z9lN' ?q9m ?q9c ?q9d ?_; (case q9h => with_unfolding_all rfl); (case q9m => k_mem); (case q9c => exact rfl); (case q9d => exact rfl)); clear z9lF'; intro z9i' z9l1; (try k_lt z9l1))
  k_with "~pyIter ref" => (k_here; (with_reducible show wpAny _ _ (pyIter (Value.ref _)) (fun it s₂ => TurnsAt _ _ _ _ _ _ _ _ _ it s₂) _ _); (rename Fr _ _ _ _ => z9lF'); (rename News _ _ _ _ => z9lN'); k_dflt (refine' iter_listTurns ?q9h z9lF' z9lN' ?q9m ?q9c ?q9d ?_; (case q9h => with_unfolding_all rfl); (case q9m => k_mem); (case q9c => exact rfl); (case q9d => exact rfl)); clear z9lF'; intro z9i' z9l1; (try k_lt z9l1))
  k_with "~UnrEndW" => ((rename Fr _ _ _ _ => z9lF'); (rename News _ _ _ _ => z9lN'); (refine' unrEnd z9lF' z9lN' ?q9c9 ?q9o9 ⟨?q9k9, ?_⟩; (case q9c9 => repeat' (first | exact Cut.base | refine' Cut.cons ?_)); (case q9o9 => k_extra "offE9"); (case q9k9 => k_subL)); clear z9lF' z9lN')
  k_with "~@size_fits" => (simp only [List.size_toArray, List.length_append, List.length_cons, List.length_nil, sizeLine_eq]; omega)
  k_with "~call builtin:list.extend" => (k_here; (with_reducible show wpAny _ _ (call (Value.builtin _) [Value.ref _, Value.ref _]) _ _ _); k_dflt (refine' ext_list ?q9F ?q9N ?q9b ?q9ne ?q9U ?q9z ?_; (case q9F => k_asm); (case q9N => k_asm); (case q9b => k_mem); (case q9U => k_upd); (case q9ne => exact List.cons_ne_nil _ _); (case q9z => (simp only [List.length_append, List.length_cons, List.length_nil]; omega))); intro z9h' z9F' z9N'; (try k_sweep))
  k_with "~call builtin:list.pop" => (k_here; (with_reducible show wpAny _ _ (call (Value.builtin _) [Value.ref _]) _ _ _); k_dflt (refine' pop_list ?q9F ?q9N ?q9U ?q9z ?_; (case q9F => k_asm); (case q9N => k_asm); (case q9U => k_upd); (case q9z => omega)); intro z9h' z9F' z9N'; (try k_sweep))
  k_with "~exec Raise some none" => (k_here; refine raise_fault (by rfl) ?_)
  k_with "~call ref" => ((with_reducible show wpAny _ _ (call (Value.ref 44) [_]) _ _ _); k_here; k_dflt (refine' call_fault ?q9k1 ?q9k2 ?q9k3 ?_; (case q9k1 => k_asm); (case q9k2 => k_asm); (case q9k3 => k_asm); intro z9e' z9t' z9h' z9F' z9N' z9l1 z9l2 z9l3 z9n' z9k'; (try k_lt z9l1); (try k_lt2 z9l2); (try k_lt z9l3); (try k_sweep); k_enter))
  k_with "~getMethod type:Exception" => (k_here; (with_reducible refine' method_type ?q9F ?q9X exc_kind exc_stub ?q9e ?q9h ?_); k_dflt ((case q9F => k_asm); (case q9X => k_asm); (case q9e => k_is); (case q9h => k_handed)))
  k_with "~call builtin:Exception.__init__" => (k_here; k_dflt (refine' exc_init ?q9F ?q9X ?q9N ?q9U ?_; (case q9F => k_asm); (case q9X => k_asm); (case q9N => k_asm); (case q9U => k_updF); intro z9t' z9h' z9F' z9N'; (try dsimp only at z9N'); (try k_sweep)))
  k_with "~setAttr ref" => ((with_reducible show wpAny _ _ (setAttr (Value.ref _) (PySem.Str.ofString "text") _) _ _ _); k_here; k_dflt (refine' set_text ?q9T ?q9F ?q9X ?q9N ?q9U ?_; (case q9T => rfl); (case q9F => k_asm); (case q9X => k_asm); (case q9N => k_asm); (case q9U => k_updF); intro z9d' z9h' z9tk' z9F' z9N'; (try dsimp only at z9N'); (try k_sweep)))
  k_with "~exec Raise some none" => (k_here; k_dflt (refine raise_fault' (by rfl) ?_))
  k_with "~Raises44" => (k_here; k_dflt (refine' raises_of ?q9F ?q9X ?q9N ?q9m ?_; (case q9F => k_asm); (case q9X => k_asm); (case q9N => k_asm); (case q9m => k_mem)))
  k_with "~leaving ref" => (k_here; k_dflt (refine' leave_newB ?q9k1 ?q9k2 ?q9k3 ?q9k4 ?_; (case q9k1 => assumption); (case q9k2 => assumption); (case q9k3 => assumption); (case q9k4 => k_mem); k_whole; intro z9h' z9R' z9U'; (try dsimp only at z9R' z9U' ⊢)))
  k_with "~compareOp NotIn str ref" => (k_here; k_dflt (first
    | refine kdg_notin (knd := PySem.strKind _ _) (by k_asm) (by k_mem) (by assumption) (by assumption) (strKind_is _ _ _ _) true (by rw [‹valueAt _ _ = some _›]; rfl) ?_
    | refine kdg_notin (knd := PySem.strKind _ _) (by k_asm) (by k_mem) (by assumption) (by assumption) (strKind_is _ _ _ _) false (by rw [‹valueAt _ _ = none›]; rfl) ?_); (try dsimp only [Bool.not_true, Bool.not_false]))
  k_with "~compareOp In str ref" => (k_here; k_dflt (first
    | refine kda_in (knd := PySem.strKind _ _) (by k_asm) (by k_mem) (by assumption) (by assumption) (strKind_is _ _ _ _) true (by rw [‹valueAt _ _ = some _›]; rfl) ?_
    | refine kda_in (knd := PySem.strKind _ _) (by k_asm) (by k_mem) (by assumption) (by assumption) (strKind_is _ _ _ _) false (by rw [‹valueAt _ _ = none›]; rfl) ?_))
  k_with "~subscriptTail" => (k_here; k_dflt ((with_reducible show wpAny _ _ (subscriptTail _ _ (Value.ref _) (Value.str _ _)) _ _ _); refine kda_item (knd := PySem.strKind _ _) (by k_asm) (by k_mem) (by assumption) (strKind_is _ _ _ _) (by assumption) ?_))
  k_with "~subscriptTail" => (k_here; (with_reducible show wpAny _ _ (subscriptTail _ _ (Value.ref _) (Value.int 1 _)) _ _ _); k_dflt (refine item_kind (by k_asm) (by assumption) (by k_extra "sub9") ?_ (by with_unfolding_all rfl) (by intro _; with_unfolding_all rfl)); intro z9t')
  k_with "~@k_upd" => ((with_reducible show Upd _ _ _ (_ ++ _) _); refine' Upd.app ?q9a ?q9b; (case q9a => k_all); (case q9b => k_upd))
  k_with "~@k_updF" => ((with_reducible show UpdF _ _ (_ ++ _) _); refine' UpdF.app ?q9a ?q9b; (case q9a => k_all); (case q9b => k_updF))
  trivial
/-- an object that data are read from -/
noncomputable def isDat (o : Obj) : Prop := o.cls = .type "tuple" ∨ o.cls = .type "list"
mutual
theorem DatIn.data {S S' : List (Addr × Obj)} (hs : ∀ p ∈ S, isDat p.2 → p ∈ S') : ∀ {v : Value} {d : Dat}, DatIn S v d → DatIn S' v d
  | _, _, .none => .none
  | _, _, .bool b => .bool b
  | _, _, .int i t => .int i t
  | _, _, .str x t => .str x t
  | _, _, .bytes b t => .bytes b t
  | _, _, .tuple h r => .tuple (hs _ h (.inl rfl)) (DatAll.data hs r)
  | _, _, .list h r => .list (hs _ h (.inr rfl)) (DatAll.data hs r)
theorem DatAll.data {S S' : List (Addr × Obj)} (hs : ∀ p ∈ S, isDat p.2 → p ∈ S') : ∀ {vs : List Value} {ds : List Dat}, DatAll S vs ds → DatAll S' vs ds
  | _, _, .nil => .nil
  | _, _, .cons h r => .cons (DatIn.data hs h) (DatAll.data hs r)
end
theorem dat_cons {p : Addr × Obj} {S S' : List (Addr × Obj)} (h : isDat p.2 → p ∈ S') (r : ∀ q ∈ S, isDat q.2 → q ∈ S') : ∀ q ∈ p :: S, isDat q.2 → q ∈ S' := List.forall_mem_cons.mpr ⟨h, r⟩
theorem dat_app {l S S' : List (Addr × Obj)} (h : ∀ q ∈ l, q ∈ S') (r : ∀ q ∈ S, isDat q.2 → q ∈ S') : ∀ q ∈ l ++ S, isDat q.2 → q ∈ S' := List.forall_mem_append.mpr ⟨fun q hq _ => h q hq, r⟩
theorem dat_end {S S' : List (Addr × Obj)} (h : ∀ q ∈ S, q ∈ S') : ∀ q ∈ S, isDat q.2 → q ∈ S' := fun q hq _ => h q hq
theorem dict_no {K : Type} [DecidableEq K] {prog : Program} {w : World} {knd : KeyKind prog w K} {o : Obj} {kvs : List (K × Value)} (h : o.IsDictOf knd kvs) : ¬ isDat o := by
  obtain ⟨es, ep, ⟨h1, _⟩, _⟩ := h
  rintro (h2 | h2) <;> (rw [h1] at h2; simp at h2)
theorem Upd.app {d : Addr} {o o' : Obj} {r r' : List (Addr × Obj)} : ∀ {tl : List (Addr × Obj)}, (∀ p ∈ tl, p.1 ≠ d) → Upd d o o' r r' → Upd d o o' (tl ++ r) (tl ++ r')
  | [], _, u => u
  | p :: tl, h, u => .tail (h p (.head _)) (Upd.app (fun q hq => h q (.tail _ hq)) u)
theorem UpdF.app {d : Addr} {o : Obj} {r : List (Addr × Obj)} {g : Obj → List (Addr × Obj)} : ∀ {tl : List (Addr × Obj)}, (∀ p ∈ tl, p.1 ≠ d) → UpdF d o r g → UpdF d o (tl ++ r) (fun o' => tl ++ g o')
  | [], _, u => u
  | p :: tl, h, u => .tail (h p (.head _)) (UpdF.app (fun q hq => h q (.tail _ hq)) u)
local macro_rules | `(tactic| k_upd) => `(tactic| k_extra "~@k_upd")
local macro_rules | `(tactic| k_updF) => `(tactic| k_extra "~@k_updF")
theorem offL_uncons {tl S : List (Addr × Obj)} {a : Addr} {o : Obj} (h : OffL tl ((a, o) :: S)) : (∀ p ∈ tl, p.1 ≠ a) ∧ OffL tl S := ⟨fun p hp => h p hp _ (.head _), fun p hp q hq => h p hp q (.tail _ hq)⟩
/-- the new part of a ledger: what stands in K or in S is left out -/
inductive Sel (K S : List (Addr × Obj)) : List (Addr × Obj) → List (Addr × Obj) → Prop
  | base : Sel K S S []
  | old {p : Addr × Obj} {l t : List (Addr × Obj)} : p ∈ S → Sel K S l t → Sel K S (p :: l) t
  | cut {p : Addr × Obj} {l t : List (Addr × Obj)} : p ∈ K → Sel K S l t → Sel K S (p :: l) t
  | keep {p : Addr × Obj} {l t : List (Addr × Obj)} : Sel K S l t → Sel K S (p :: l) (p :: t)
  | app {tl l t : List (Addr × Obj)} : Sel K S l t → Sel K S (tl ++ l) (tl ++ t)
theorem Sel.sub {K S l t : List (Addr × Obj)} (h : Sel K S l t) : ∀ p ∈ t ++ S, p ∈ l := by
  induction h with
  | base => exact fun p hp => hp
  | old _ _ ih => exact fun p hp => .tail _ (ih p hp)
  | cut _ _ ih => exact fun p hp => .tail _ (ih p hp)
  | keep _ ih => exact fun p hp => (List.mem_cons.mp hp).elim (fun e => e ▸ .head _) fun q => .tail _ (ih p q)
  | app _ ih =>
    intro p hp
    rw [List.append_assoc] at hp
    exact (List.mem_append.mp hp).elim (fun q => List.mem_append_left _ q) fun q => List.mem_append_right _ (ih p q)
theorem Sel.back {K S l t : List (Addr × Obj)} (h : Sel K S l t) : ∀ p ∈ l, p ∈ K ∨ p ∈ t ++ S := by
  induction h with
  | base => exact fun p hp => .inr hp
  | old hm _ ih => exact fun p hp => (List.mem_cons.mp hp).elim (fun e => .inr (List.mem_append_right _ (e ▸ hm))) (ih p)
  | cut hm _ ih => exact fun p hp => (List.mem_cons.mp hp).elim (fun e => .inl (e ▸ hm)) (ih p)
  | keep _ ih => exact fun p hp => (List.mem_cons.mp hp).elim (fun e => .inr (e ▸ .head _)) fun q => (ih p q).imp id fun z => .tail _ z
  | app _ ih =>
    intro p hp
    rw [List.append_assoc]
    exact (List.mem_append.mp hp).elim (fun q => .inr (List.mem_append_left _ q)) fun q => (ih p q).imp id fun z => List.mem_append_right _ z
theorem selN {h₀ h : Heap} {L : Addr} {K S all t : List (Addr × Obj)} {P : Prop} (N : News h₀ L h all) (s : Sel K S all t) (hk : ∀ p ∈ K, p ∈ all) (k : News h₀ L h (K ++ (t ++ S)) → P) : P :=
  k (news_sub N (List.forall_mem_append.mpr ⟨hk, s.sub⟩))
theorem addN {h₀ h : Heap} {L : Addr} {all : List (Addr × Obj)} {P : Prop} (K : List (Addr × Obj)) (N : News h₀ L h all) (hk : ∀ p ∈ K, p ∈ all) (k : News h₀ L h (K ++ all) → P) : P :=
  k (news_sub N (List.forall_mem_append.mpr ⟨hk, fun _ hp => hp⟩))
theorem subL_of {l all : List (Addr × Obj)} (h : ∀ p ∈ l, p ∈ all) : SubL l all := by
  induction l with
  | nil => exact trivial
  | cons p r ih => exact ⟨h p (.head _), ih fun q hq => h q (.tail _ hq)⟩
theorem offI_of {I : Addr} {it : Obj} {l : List (Addr × Obj)} (h : ∀ p ∈ l, p.1 ≠ I) : OffI I it l := by
  induction l with
  | nil => exact trivial
  | cons p r ih => exact ⟨.inl (h p (.head _)), ih fun q hq => h q (.tail _ hq)⟩
theorem unrEndS {h₀ : Heap} {L I : Addr} {it : Obj} {rest : (Str → Option Value) → List (Addr × Obj) → Prop} {s₁ : Shared} {h' : Heap} {tk : Nat} {m' : Str → Option Value} {all t : List (Addr × Obj)} (S : List (Addr × Obj)) (F : Fr h₀ L h' m') (N : News h₀ L h' all)
    (hI : (I, it) ∈ all) (s : Sel [(I, it)] S all t) (off : ∀ p ∈ t ++ S, p.1 ≠ I) (r : rest m' (t ++ S)) : UnrEnd h₀ L s₁ I it rest { s₁ with heap := h', toks := tk } :=
  UnrEnd.intro3 F N (t ++ S) hI (subL_of s.sub) (offI_of off) r
theorem EvP.mkS {S tl : List (Addr × Obj)} {sp : Addr} {t : Ty} {c : Nat} {tc : Tok} {nn : Nat} {r : Value} {res : Option (Ty × Nat)} (hf : res = some (t, c)) (h9 : ∀ p ∈ tl, p.1 ≠ sp) (o9 : OffL S tl) (hd : DatIn (tl ++ S) r t.dat) :
    EvP S sp res r (cel sp c tc nn :: (tl ++ S)) := ⟨t, c, tl, tc, nn, hf, rfl, h9, offL_swap o9, hd⟩
theorem news_fun {h₀ h : Heap} {L d : Addr} {nx : List (Addr × Obj)} {o o' : Obj} (N : News h₀ L h nx) (h1 : (d, o) ∈ nx) (h2 : (d, o') ∈ nx) : o = o' := by
  have a := (N _ h1).1
  have b := (N _ h2).1
  dsimp only at a b
  rw [a] at b
  exact Option.some.inj b
/-- one entry drawn to the head, all else behind it -/
theorem pull {h₀ h : Heap} {L d : Addr} {nx : List (Addr × Obj)} {o : Obj} (N : News h₀ L h nx) (hm : (d, o) ∈ nx) :
    ∃ rest, News h₀ L h ((d, o) :: rest) ∧ (∀ p ∈ rest, p.1 ≠ d) ∧ (∀ p ∈ nx, p.1 ≠ d → p ∈ rest) ∧ (∀ p ∈ rest, p ∈ nx) := by
  refine ⟨nx.filter fun p => decide (p.1 ≠ d), ?_, fun p hp => by simpa using (List.mem_filter.mp hp).2, fun p hp h => List.mem_filter.mpr ⟨hp, by simpa using h⟩, fun p hp => (List.mem_filter.mp hp).1⟩
  intro p hp
  rcases List.mem_cons.mp hp with rfl | hp
  · exact N _ hm
  · exact N p (List.mem_filter.mp hp).1
/-- a part that stands apart stays -/
theorem pull_sub {d : Addr} {nx rest S : List (Addr × Obj)} (hr : ∀ p ∈ nx, p.1 ≠ d → p ∈ rest) (hs : ∀ p ∈ S, p ∈ nx) (hd : ∀ p ∈ S, p.1 ≠ d) : ∀ p ∈ S, p ∈ rest := fun p hp => hr p (hs p hp) (hd p hp)
section
variable {prog : Program} {w : World} {A : Around} {E : Value → Shared → Prop} {s : Shared} {env : Env} {h₀ : Heap} {x : Str} {body : List Stmt} {Q : Flow → Shared → Prop}
set_option maxHeartbeats 1600000 in
theorem loop_range1 {σ : Type} {r : Addr} {b : Nat} {t₀ u₀ v₀ : Tok} {m₀ : Str → Option Value} {news : List (Addr × Obj)} (ps : σ → List (Str × Value)) (stored : List Str) (Inv : Nat → σ → List (Addr × Obj) → Prop) (c₀ : σ)
    (hh : A.handled = none) (hr : IsRange s.heap r 1 (1 + (b : Int)) 1 t₀ u₀ v₀) (hb : (b : Int) < 2 ^ 61) (F : Fr h₀ env.locals s.heap m₀) (N : News h₀ env.locals s.heap news) (hi : Inv 0 c₀ news) (hk : ∀ p ∈ ps c₀, m₀ p.1 = some p.2)
    (turn : ∀ (i : Nat) (c : σ) nx t (u : Str → Option Value) h tk own, i < b → OwnOff own (nx.map (·.1)) → Inv i c nx →
      Fr h₀ env.locals h (fun y => if y = x then some (.int ((i : Int) + 1) t) else kstB (fun z => if stored.contains z then u z else m₀ z) (ps c) y) → News h₀ env.locals h (nx ++ own) →
      wpAny (model prog w) A (execs body env) (InvPostG h₀ env.locals (LJ x ps stored m₀ (Inv (i + 1))) own { s with heap := h, toks := tk } Q) E { s with heap := h, toks := tk })
    (done : ∀ (c : σ) nx (u : Str → Option Value) h tk, Inv b c nx → Fr h₀ env.locals h (fun y => if y = x then u y else kstB (fun z => if stored.contains z then u z else m₀ z) (ps c) y) → News h₀ env.locals h nx → Q .next { s with heap := h, toks := tk }) :
    wpAny (model prog w) A (pyIter (.ref r)) (fun it s₂ => LoopAtV prog w A h₀ env x body Q E it s₂) E s := by
  have hsmall : Builtin.Range.small 1 (1 + (b : Int)) 1 = true := small_one (by decide) (by decide) (by omega) (by omega)
  have hsz : Builtin.Range.rangeSize 1 (1 + (b : Int)) 1 = (b : Int) := by
    unfold Builtin.Range.rangeSize
    split <;> simp <;> omega
  refine wpAny_pyIter_range hr hsmall ?_
  have W : Walks prog w A s.heap.objs.size [s.heap.objs.size] [s.heap.objs.size] b (fun i v => i < b ∧ ∃ t, v = .int (1 + i * 1) t)
      (fun i h => IsRangeIter h s.heap.objs.size (1 + (i : Nat) * 1) ((b : Int) - (i : Nat)) 1) := (Walks.range hh _ 1 1 b).bound
  refine kdr_loop (fun i m nx => LJ x ps stored m₀ (Inv i) m nx) W (fun _ h => h) (fun _ h => h) ?_ ?_ ?_ ?_ (by show IsRangeIter _ _ _ _ _; rw [hsz]; simpa using Heap.get?_push_size _ rfl) (F.push _) (fun p hp => ⟨Heap.get?_push_of_some _ (N p hp).1, (N p hp).2⟩) ⟨c₀, hi, hk, fun _ _ _ _ => rfl⟩ ?_ ?_
  · intro i h hi b hb
    rw [List.mem_singleton.mp hb]
    exact ⟨_, hi⟩
  · intro hm
    exact absurd F.ns.lt ((List.mem_singleton.mp hm) ▸ Nat.lt_irrefl _)
  · intro b hb
    rw [List.mem_singleton.mp hb]
    exact next_is_new F
  · intro p hp hI
    exact absurd (Heap.lt_size (N p hp).1) ((List.mem_singleton.mp hI) ▸ Nat.lt_irrefl _)
  · rintro i v m₁ nx h tk own hi ⟨_, t, rfl⟩ hoff ⟨c, hc, h1, h2⟩ F₁ N₁
    have e1 : (1 : Int) + (i : Int) * 1 = (i : Int) + 1 := by omega
    rw [e1] at F₁
    exact turn i c nx t m₁ h tk own hi hoff hc (kst_fr h1 h2 F₁) N₁
  · rintro m₁ nx h tk ⟨c, hc, h1, h2⟩ F₁ N₁
    exact done c nx m₁ h tk hc (kst_frOut h1 h2 F₁) N₁
end
theorem LJ.finA {σ : Type} {x : Str} {h₀ : Heap} {ps : σ → List (Str × Value)} {stored : List Str} {m₀ m' : Str → Option Value} {Inv : σ → List (Addr × Obj) → Prop} {L : Addr} {own news' : List (Addr × Obj)} {s₁ : Shared} {h' : Heap} {tk : Nat} (nx : List (Addr × Obj)) (c : σ)
    (F : Fr h₀ L h' m') (N : News h₀ L h' news') (s1 : ∀ p ∈ nx, p ∈ news') (s2 : ∀ p ∈ own, p ∈ news') (hoff : OwnOff own (nx.map (·.1))) (hi : Inv c nx) (hk : ∀ p ∈ ps c, m' p.1 = some p.2)
    (hr : ∀ z, z ≠ x → (∀ p ∈ ps c, z ≠ p.1) → stored.contains z = false → m' z = m₀ z) :
    InvEndG h₀ L (LJ x ps stored m₀ Inv) own s₁ { s₁ with heap := h', toks := tk } := ⟨h', tk, m', news', nx, rfl, F, N, s1, s2, hoff, c, hi, hk, hr⟩
theorem reg_words_Rpt : True := by
  k_with_none
  w_top off
  k_with "for!" => fail "no word"
  k_with "memr9" => first
    | with_reducible assumption
    | with_reducible exact List.mem_cons_self
    | (with_reducible refine List.mem_cons_of_mem _ ?_; k_extra "memr9")
    | (with_reducible refine List.mem_append_right _ ?_; k_extra "memr9")
    | (with_reducible refine List.mem_append_left _ ?_; k_extra "memr9")
  k_with "mem9" => first
    | k_extra "memr9"
    | assumption
    | k_mem
    | (simp only [List.mem_cons, List.mem_append] at *; simp only [*, true_or, or_true])
    | grind
  k_with "sub8" => first
    | exact List.forall_mem_nil _
    | (refine' List.forall_mem_cons.mpr ⟨?m8, ?_⟩; (case m8 => k_mem); k_extra "sub8")
    | (refine' List.forall_mem_append.mpr ⟨?m8, ?_⟩; (case m8 => k_extra "sub8"); k_extra "sub8")
    | (intro p8 h8; k_mem)
  k_with "sub9" => first
    | k_extra "sub8"
    | (intro p9 h9; first
      | exact h9
      | (simp only [List.mem_cons, List.mem_append] at h9 ⊢; grind))
  k_with "dat9" => repeat' (first
    | exact DatIn.str _ _
    | exact DatIn.int _ _
    | exact DatAll.nil
    | assumption
    | (refine' DatAll.cons ?_ ?_)
    | (refine' DatIn.tuple ?m9 ?_; (case m9 => k_extra "mem9"))
    | (refine' DatIn.list ?m9 ?_; (case m9 => k_extra "mem9"))
    | (refine' DatIn.mono ?s9 ?h9; (case h9 => assumption); (case s9 => k_extra "sub9")))
  k_with "and9" => first
    | ((fail_if_success (fail_if_success (rename _ ∧ _ => hc9))); refine foldP (fun G9 hG9 => ?_); (repeat' (rename _ ∧ _ => hc9; refine and_go hc9 (fun hc8 hc7 => ?_); clear hc9)); refine hG9 ?_; clear hG9 G9)
    | skip
  k_with "fold9" => ((fail_if_success (fail_if_success k_fold)); refine (let q9 := _; let e9 := _; (?_ : wpAny _ _ _ q9 e9 _)))
  k_with "ne9" => first
    | assumption
    | (refine' ne_all ?h9 ?s9; (case h9 => assumption); (case s9 => k_extra "sub9"))
    | (refine' ne_allT ?h9 ?s9; (case h9 => assumption); (case s9 => k_extra "sub9"))
  k_with "off9" => (
    refine' off_of ?_
    repeat' (first
    | exact offL_nil
    | (refine' offL_sub ?h9 ?s9; (case h9 => assumption); (case s9 => k_extra "sub9"))
    | (refine' offL_cons ?o9 ?_; (case o9 => k_extra "ne9"))
    | (refine' offL_app ?_ ?_)))
  k_with "split9" => first | exact Split.base | (refine Split.cons ?_; k_extra "split9") | (refine Split.app ?_; k_extra "split9")
  k_with "same9" => (intro z9 h1 h2 h3; (simp only [List.mem_cons, List.not_mem_nil, or_false, forall_eq_or_imp, forall_eq] at h2); (simp only [List.contains_cons, List.contains_nil, Bool.or_false, Bool.or_eq_false_iff, beq_eq_false_iff_ne, ne_eq] at h3); (simp [h1, h2, h3, kstB]; done))
  k_with "sameW9" => (intro z9 h2 h3; (simp only [List.mem_cons, List.not_mem_nil, or_false, forall_eq_or_imp, forall_eq] at h2); (simp only [List.contains_cons, List.contains_nil, Bool.or_false, Bool.or_eq_false_iff, beq_eq_false_iff_ne, ne_eq] at h3); (simp [h2, h3, kstB]; done))
  k_with "one9" => (first | exact List.forall_mem_nil _ | (refine' List.forall_mem_cons.mpr ⟨?a9, ?_⟩; (case a9 => with_unfolding_all rfl); k_extra "one9"))
  k_with "offE9" => ((try dsimp only); (repeat (refine' List.forall_mem_cons.mpr ⟨?o9, ?_⟩; (case o9 => ((try dsimp only); k_ne)))); (repeat' (rename _ ∧ _ => hc9; rcases hc9 with ⟨hc8, hc7⟩)); first | exact List.forall_mem_nil _ | assumption | exact lt_ne (by assumption) | exact gt_ne (by assumption))
  k_with "rot9" => repeat' (first | exact Rot.here | refine' Rot.next ?_)
  k_with "nes8" => repeat' (first | assumption | exact List.forall_mem_nil _ | (refine' List.forall_mem_cons.mpr ⟨?m8, ?_⟩; (case m8 => dsimp only; first | exact Nat.ne_of_gt (by assumption) | exact Nat.ne_of_lt (by assumption) | assumption | exact Ne.symm (by assumption) | k_ne)) | exact lt_ne (by assumption) | refine' List.forall_mem_append.mpr ⟨?_, ?_⟩)
  k_with "offs8" => repeat' (first | assumption | exact offL_nil | exact offL_swap (by assumption) | (refine' offL_cons ?m8 ?_; (case m8 => dsimp only; first | exact lt_ne (by assumption) | (refine' lt_ne2 ?A8 ?B8; (case B8 => assumption); (case A8 => assumption)) | k_extra "ne9")) | refine' offL_app ?_ ?_)
  k_with "sel9" => repeat' (first | exact Sel.base | (refine' Sel.old ?m9 ?_; (case m9 => assumption)) | (refine' Sel.cut ?m9 ?_; (case m9 => repeat (first | exact List.mem_cons_self | refine List.mem_cons_of_mem _ ?_))) | refine' Sel.keep ?_ | refine' Sel.app ?_)
  k_with "mems9" => repeat' (first | exact List.forall_mem_nil _ | (refine' List.forall_mem_cons.mpr ⟨?m9, ?_⟩; (case m9 => k_extra "mem9")))
  k_with "isd9" => repeat' (first | (refine' dat_cons ?m9 ?_; (case m9 => first | (intro _; k_mem) | (intro q9; exact absurd q9 (dict_no (by assumption))) | (intro q9; exact absurd q9 (by simp [isDat, instObj, dictOf, itR])))) | (refine' dat_app ?m9 ?_; (case m9 => k_extra "sub9")) | (refine' dat_end ?m9; (case m9 => k_extra "sub9")))
  k_with "~execs cons" => k_extra "fold9"
  k_with "~call builtin:isinstance" => (k_here; (with_reducible show wpAny _ _ (call _ [Value.ref _, Value.type _]) _ _ _); kit_cont; k_dflt kit_objs)
  k_with "~eval Call" => k_extra "fold9"
  k_with "~eval Compare" => k_extra "fold9"
  k_with "~eval BinOp" => k_extra "fold9"
  k_with "~eval Tuple" => k_extra "fold9"
  k_with "~eval List" => k_extra "fold9"
  k_with "~eval Subscript" => k_extra "fold9"
  k_with "~eval Attribute" => k_extra "fold9"
  k_with "~eval IfExp" => k_extra "fold9"
  k_with "lt9" => first
    | with_reducible assumption
    | exact cj0 (by with_reducible assumption)
    | exact cj1 (by with_reducible assumption)
    | exact cj2 (by with_reducible assumption)
    | exact cj3 (by with_reducible assumption)
    | exact cj4 (by with_reducible assumption)
    | exact cj5 (by with_reducible assumption)
    | exact cj6 (by with_reducible assumption)
    | exact cj7 (by with_reducible assumption)
    | exact cz1 (by with_reducible assumption)
    | exact cz2 (by with_reducible assumption)
    | exact cz3 (by with_reducible assumption)
    | exact cz4 (by with_reducible assumption)
    | exact cz5 (by with_reducible assumption)
    | exact cz6 (by with_reducible assumption)
    | exact cz7 (by with_reducible assumption)
    | fail "lt9"
  k_with "om9" => first
    | with_reducible assumption
    | exact Nat.le_of_ble_eq_true rfl
    | exact Ne.symm (by with_reducible assumption)
    | ((with_reducible show (_ : Nat) ≠ _); first | exact Nat.ne_of_lt (by k_extra "lt9") | exact Nat.ne_of_gt (by k_extra "lt9"))
    | ((with_reducible show (_ : Nat) < _); first
      | exact rm1 (by with_reducible assumption) (by exact rfl)
      | exact rm0 (by with_reducible assumption)
      | exact rn1 (by with_reducible assumption) (by exact rfl)
      | exact rn3 (by with_reducible assumption) (by exact rfl)
      | exact rf2 (by with_reducible assumption) (by with_reducible assumption) (by exact rfl)
      | exact rm3 (by with_reducible assumption) (by exact rfl)
      | exact uf2 (by with_reducible assumption) (by with_reducible assumption) (by exact rfl)
      | exact um3 (by with_reducible assumption) (by exact rfl)
      | exact rf1 (by with_reducible assumption) (by with_reducible assumption) (by exact rfl)
      | exact rf3 (by with_reducible assumption) (by with_reducible assumption) (by exact rfl)
      | exact uf3 (by with_reducible assumption) (by with_reducible assumption) (by exact rfl)
      | k_extra "lt9")
    | fail "om9"
  k_with "~@k_all" => first | assumption | exact lt_ne (by assumption) | exact gt_ne (by assumption) | (refine' List.forall_mem_append.mpr ⟨?q9a, ?q9b⟩; (case q9a => k_all); (case q9b => k_all))
  k_with "~call builtin:len" => (k_here; (with_reducible show wpAny _ _ (call (Value.builtin "len") [Value.ref _]) _ _ _); (refine KM.len_K (by k_asm) (by k_dflt k_mem) rfl (by simp; omega) ?_))
  k_with "~@k_room" => ((try simp only [depth_mark, depth_under_make, depth_under_kw, depth_in1, depth_deeper, depth_caller]); (try dsimp only [ktrTop]); omega)
  k_with "~@k_units" => ((have hcL9 := cLine_is); (try simp only [units_in1, units_deeper, Around.mark_units, units_caller]); (try dsimp only [ktrTop]); omega)
  k_with "~exec While Compare cons nil" => k_extra "while!"
  k_with "~pyIter ref" => k_extra "iter!"
  k_with "~call ref" => k_extra "call!"
  k_with "~exec For Name Call cons nil" => (k_extra "for!"; k_here; (rename Fr _ _ _ _ => z9lF'); (with_unfolding_all refine' For_invVF z9lF' ?q9k1 ?q9k2 ?_; (case q9k1 => exact rfl); (case q9k2 => exact rfl); k_whole))
  k_with "~exec For Name Name cons nil" => (k_extra "for!"; k_here; (rename Fr _ _ _ _ => z9lF'); (with_unfolding_all refine' For_invVF z9lF' ?q9k1 ?q9k2 ?_; (case q9k1 => exact rfl); (case q9k2 => exact rfl); k_whole))
  k_with "~@k_mem" => first | assumption | exact List.mem_cons_self | (refine List.mem_cons_of_mem _ ?_; k_mem) | (refine List.mem_append_left _ ?_; k_mem) | (refine List.mem_append_right _ ?_; k_mem)
  k_with "~subscriptTail Name Slice ref ref" => (k_here; (with_reducible show wpAny _ _ (subscriptTail _ (PySem.Expr.Slice _ none none _) (Value.ref _) (Value.ref _)) _ _ _); k_dflt (refine' tup_from ?q9F ?q9N ?q9b ?q9o ?q9l ?q9e ?_ ?q9s ?q9t ?q9z; (case q9F => k_asm); (case q9N => k_asm); (case q9b => k_mem); (case q9o => decide); (case q9l => exact Nat.le_of_ble_eq_true rfl); (case q9e => kl_lit); (case q9s => with_unfolding_all rfl); (case q9t => (intro _; with_unfolding_all rfl)); (case q9z => (simp only [List.length_cons, List.length_nil, sizeLine_eq]; omega))); intro z9D' z9h' z9F' z9N' z9l1; (try k_lt z9l1); (try k_sweep))
  k_with "~exec For Name Subscript cons nil" => (k_here; (rename Fr _ _ _ _ => z9lF'); (with_unfolding_all refine' For_turns z9lF' ?_; k_whole))
  k_with "~exec For Name Name cons nil" => (k_extra "turns!"; k_here; (rename Fr _ _ _ _ => z9lF'); (with_unfolding_all refine' For_turns z9lF' ?_; k_whole))
  k_with "~pyIter ref" => (k_here; (with_reducible show wpAny _ _ (pyIter (Value.ref _)) (fun it s₂ => TurnsAt _ _ _ _ _ _ _ _ _ it s₂) _ _); (rename Fr _ _ _ _ => z9lF'); (rename News _ _ _ _ => z9lN'); k_dflt (refine' iter_tupTurns ?q9h z9lF' z9lN' ?q9m ?q9c ?q9d ?_; (case q9h => with_unfolding_all rfl); (case q9m => k_mem); (case q9c => exact rfl); (case q9d => exact rfl)); clear z9lF'; intro z9i' z9l1; (try k_lt z9l1))
  k_with "~pyIter ref" => (k_here; (with_reducible show wpAny _ _ (pyIter (Value.ref _)) (fun it s₂ => TurnsAt _ _ _ _ _ _ _ _ _ it s₂) _ _); (rename Fr _ _ _ _ => z9lF'); (rename News _ _ _ _ => z9lN'); k_dflt (refine' iter_listTurns ?q9h z9lF' z9lN' ?q9m ?q9c ?q9d ?_; (case q9h => with_unfolding_all rfl); (case q9m => k_mem); (case q9c => exact rfl); (case q9d => exact rfl)); clear z9lF'; intro z9i' z9l1; (try k_lt z9l1))
  k_with "~UnrEndW" => ((rename Fr _ _ _ _ => z9lF'); (rename News _ _ _ _ => z9lN'); (refine' unrEnd z9lF' z9lN' ?q9c9 ?q9o9 ⟨?q9k9, ?_⟩; (case q9c9 => repeat' (first | exact Cut.base | refine' Cut.cons ?_)); (case q9o9 => k_extra "offE9"); (case q9k9 => k_subL)); clear z9lF' z9lN')
  k_with "~@size_fits" => (simp only [List.size_toArray, List.length_append, List.length_cons, List.length_nil, sizeLine_eq]; omega)
  k_with "~call builtin:list.extend" => (k_here; (with_reducible show wpAny _ _ (call (Value.builtin _) [Value.ref _, Value.ref _]) _ _ _); k_dflt (refine' ext_list ?q9F ?q9N ?q9b ?q9ne ?q9U ?q9z ?_; (case q9F => k_asm); (case q9N => k_asm); (case q9b => k_mem); (case q9U => k_upd); (case q9ne => exact List.cons_ne_nil _ _); (case q9z => (simp only [List.length_append, List.length_cons, List.length_nil]; omega))); intro z9h' z9F' z9N'; (try k_sweep))
  k_with "~call builtin:list.pop" => (k_here; (with_reducible show wpAny _ _ (call (Value.builtin _) [Value.ref _]) _ _ _); k_dflt (refine' pop_list ?q9F ?q9N ?q9U ?q9z ?_; (case q9F => k_asm); (case q9N => k_asm); (case q9U => k_upd); (case q9z => omega)); intro z9h' z9F' z9N'; (try k_sweep))
  k_with "~exec Raise some none" => (k_here; refine raise_fault (by rfl) ?_)
  k_with "~call ref" => ((with_reducible show wpAny _ _ (call (Value.ref 44) [_]) _ _ _); k_here; k_dflt (refine' call_fault ?q9k1 ?q9k2 ?q9k3 ?_; (case q9k1 => k_asm); (case q9k2 => k_asm); (case q9k3 => k_asm); intro z9e' z9t' z9h' z9F' z9N' z9l1 z9l2 z9l3 z9n' z9k'; (try k_lt z9l1); (try k_lt2 z9l2); (try k_lt z9l3); (try k_sweep); k_enter))
  k_with "~getMethod type:Exception" => (k_here; (with_reducible refine' method_type ?q9F ?q9X exc_kind exc_stub ?q9e ?q9h ?_); k_dflt ((case q9F => k_asm); (case q9X => k_asm); (case q9e => k_is); (case q9h => k_handed)))
  k_with "~call builtin:Exception.__init__" => (k_here; k_dflt (refine' exc_init ?q9F ?q9X ?q9N ?q9U ?_; (case q9F => k_asm); (case q9X => k_asm); (case q9N => k_asm); (case q9U => k_updF); intro z9t' z9h' z9F' z9N'; (try dsimp only at z9N'); (try k_sweep)))
  k_with "~setAttr ref" => ((with_reducible show wpAny _ _ (setAttr (Value.ref _) (PySem.Str.ofString "text") _) _ _ _); k_here; k_dflt (refine' set_text ?q9T ?q9F ?q9X ?q9N ?q9U ?_; (case q9T => rfl); (case q9F => k_asm); (case q9X => k_asm); (case q9N => k_asm); (case q9U => k_updF); intro z9d' z9h' z9tk' z9F' z9N'; (try dsimp only at z9N'); (try k_sweep)))
  k_with "~exec Raise some none" => (k_here; k_dflt (refine raise_fault' (by rfl) ?_))
  k_with "~Raises44" => (k_here; k_dflt (refine' raises_of ?q9F ?q9X ?q9N ?q9m ?_; (case q9F => k_asm); (case q9X => k_asm); (case q9N => k_asm); (case q9m => k_mem)))
  k_with "~leaving ref" => (k_here; k_dflt (refine' leave_newB ?q9k1 ?q9k2 ?q9k3 ?q9k4 ?_; (case q9k1 => assumption); (case q9k2 => assumption); (case q9k3 => assumption); (case q9k4 => k_mem); k_whole; intro z9h' z9R' z9U'; (try dsimp only at z9R' z9U' ⊢)))
  k_with "~compareOp NotIn str ref" => (k_here; k_dflt (first
    | refine kdg_notin (knd := PySem.strKind _ _) (by k_asm) (by k_mem) (by assumption) (by assumption) (strKind_is _ _ _ _) true (by rw [‹valueAt _ _ = some _›]; rfl) ?_
    | refine kdg_notin (knd := PySem.strKind _ _) (by k_asm) (by k_mem) (by assumption) (by assumption) (strKind_is _ _ _ _) false (by rw [‹valueAt _ _ = none›]; rfl) ?_); (try dsimp only [Bool.not_true, Bool.not_false]))
  k_with "~compareOp In str ref" => (k_here; k_dflt (first
    | refine kda_in (knd := PySem.strKind _ _) (by k_asm) (by k_mem) (by assumption) (by assumption) (strKind_is _ _ _ _) true (by rw [‹valueAt _ _ = some _›]; rfl) ?_
    | refine kda_in (knd := PySem.strKind _ _) (by k_asm) (by k_mem) (by assumption) (by assumption) (strKind_is _ _ _ _) false (by rw [‹valueAt _ _ = none›]; rfl) ?_))
  k_with "~subscriptTail" => (k_here; k_dflt ((with_reducible show wpAny _ _ (subscriptTail _ _ (Value.ref _) (Value.str _ _)) _ _ _); refine kda_item (knd := PySem.strKind _ _) (by k_asm) (by k_mem) (by assumption) (strKind_is _ _ _ _) (by assumption) ?_))
  k_with "~subscriptTail" => (k_here; (with_reducible show wpAny _ _ (subscriptTail _ _ (Value.ref _) (Value.int 1 _)) _ _ _); k_dflt (refine item_kind (by k_asm) (by assumption) (by k_extra "sub9") ?_ (by with_unfolding_all rfl) (by intro _; with_unfolding_all rfl)); intro z9t')
  k_with "~@k_upd" => ((with_reducible show Upd _ _ _ (_ ++ _) _); refine' Upd.app ?q9a ?q9b; (case q9a => k_all); (case q9b => k_upd))
  k_with "~@k_updF" => ((with_reducible show UpdF _ _ (_ ++ _) _); refine' UpdF.app ?q9a ?q9b; (case q9a => k_all); (case q9b => k_updF))
  trivial
theorem repeated (w : World) (j : Addr) (c : Int) (t : Tok) (jvs : List Value) (ns : List Int) (n : Nat) (news : List (Addr × Obj)) (hj : ∀ p ∈ news, p.1 ≠ j) (hi : IntsAre jvs ns) (hc : 0 ≤ c) (hc' : c ≤ 20) (hl : jvs.length ≤ 40) :
    Tel w 365 [.ref j] 12 ((j, listOf (.int c t :: jvs).toArray n) :: news)
      (fun r news' => ∃ c' t' n' tp bl nt nb vs due es p rest, r = .ref tp ∧ news' = (j, listOf (.int c' t' :: jvs).toArray n') :: rest ∧ (∀ p ∈ rest, p.1 ≠ j) ∧ (∀ p ∈ news, p ∈ rest) ∧ (tp, tupO [.ref bl, due] nt) ∈ rest ∧ (bl, listOf vs.toArray nb) ∈ rest ∧ DatAll rest vs (es.map Ex.dat) ∧ Rep es p ∧ 0 ≤ c' ∧ c' ≤ 40 ∧
        due = (if p ≤ 200 then .ref 330 else .none)) False := by
  have lp : Challenge.rw_pq0356_01.foot = Challenge.rw_pq0356_01.foot ∧ hd.heap_39 = hd.heap_39 := by k_fill; exact ⟨rfl, rfl⟩
  clear lp
  intro mean mg mb dp un gd cn cs a ccd cl outer A₀ base h₀ L m s Q E B F X N T hk hdp hun hret _
  k_with "for!" => skip
  k_with "iter!" => ((with_reducible show wpAny _ _ (pyIter _) (fun it s₂ => LoopAtV _ _ _ _ _ _ _ _ _ it s₂) _ _); refine Stop.out ?_)
  k_with "call!" => ((first | (with_reducible show wpAny _ _ (call (Value.ref 337) _) _ _ _) | (with_reducible show wpAny _ _ (call (Value.ref 344) _) _ _ _)); refine Stop.out ?_)
  refine wpAny_call ?_
  k_dflt ktr_enter
  k_steps
  refine Stop.on ?_
  k_dflt (refine tel_go (by k_asm) (by k_asm) (by k_asm) (by k_asm) (by rfl) (by k_asm) (spoon w j c 12 t _ jvs ns n news hj hi hc (by omega) hl (by decide) (by decide)) (by k_room) (by k_units) ?_ (fun h9 => h9.elim))
  rintro r9 news9 h9 tk9 F9 N9 ⟨x9, tr9, t9, rfl, hx0, hx1, rfl⟩
  k_steps
  obtain ⟨b9, rfl⟩ : ∃ b : Nat, x9 = (b : Int) := ⟨x9.toNat, by omega⟩
  refine Stop.on ?_
  rename IsRange _ _ _ _ _ _ _ _ => lR'
  rename Fr _ _ _ _ => lF'
  rename News _ _ _ _ => lN'
  with_unfolding_all refine' loop_range1 (b := b9) (news := (j, listOf (.int (c + 1) t9 :: jvs).toArray n) :: (?bl, listOf [.ref ?ad].toArray 0) :: (?ad, tupO [.str (Str.ofString "real") ?u1, .int 1 ?u2, .int 0 ?u3] 0) :: news) (σ := Addr × List Value × Nat × Nat × Tok × Int × Tok) (fun c => [(Str.ofString "bodies", .ref c.1), (Str.ofString "puts", .int c.2.2.2.1 c.2.2.2.2.1)]) [Str.ofString "times"] (fun i k nx => ∃ es rest, nx = (j, listOf (.int k.2.2.2.2.2.1 k.2.2.2.2.2.2 :: jvs).toArray n) :: (k.1, listOf k.2.1.toArray k.2.2.1) :: rest ∧ (∀ p ∈ rest, p.1 ≠ j) ∧ (∀ p ∈ rest, p.1 ≠ k.1) ∧ j ≠ k.1 ∧ (∀ p ∈ news, p ∈ rest) ∧ DatAll rest k.2.1 (es.map Ex.dat) ∧ Rep es k.2.2.2.1 ∧ es.length = i + 1 ∧ 0 ≤ k.2.2.2.2.2.1 ∧ k.2.2.2.2.2.1 ≤ 21 + i) (?bl, [.ref ?ad], 0, 1, _, c + 1, t9) (by rfl) lR' (by omega) lF' ?hN ⟨[.one], _, rfl, ?l2, ?l3, ?l8, ?l4, ?l5, Rep.base, rfl, ?l6, ?l7⟩ ?l1 ?turn ?done
  case hN => exact news_sub lN' (by k_extra "sub9")
  case l1 => k_extra "one9"
  case l2 => (try dsimp only); k_all
  case l3 => (try dsimp only); k_all
  case l8 => (try dsimp only); k_extra "and9"; exact Nat.ne_of_lt (by assumption)
  case l4 => k_extra "sub9"
  case l5 => rw [List.map_cons, Ex.dat, oneE]; exact .cons (by k_extra "dat9") .nil
  case l6 => (try dsimp only); omega
  case l7 => (try dsimp only); omega
  case turn =>
    rintro i' ⟨bl', vs', nb', p', tp', c', t'⟩ nx' tt' u' h' tk' own' hi' hoff' ⟨es', rest', rfl, hr1, hr2, hr3, hr4, hd', hR', hlen', h0', h1'⟩ F' N'
    dsimp only at hr2 hr3 hd' hR' h0' h1' F' N' hoff'
    clear lF' lN'
    have hne' := hr3.symm
    simp only [List.cons_append] at N'
    try k_extra "fold9"
    k_steps
    refine Stop.on ?_
    have hoj : ∀ p ∈ own', p.1 ≠ j := fun p hp => hoff' p hp _ (.head _)
    have hob : ∀ p ∈ own', p.1 ≠ bl' := fun p hp => hoff' p hp _ (.tail _ (.head _))
    k_dflt (refine tel_go (by k_asm) (by k_asm) (by k_asm) (by k_asm) (by rfl) (by k_asm) (spoon w j c' 3 t' _ jvs ns n _ (by k_extra "nes8") hi h0' (by omega) hl (by decide) (by decide)) (by k_room) (by k_units) ?_ (fun h9 => h9.elim))
    rintro r9 news9 h9 tk9 F9 N9 ⟨x9, tr9, t9, rfl, hx0, hx1, rfl⟩
    k_steps
    obtain ⟨ti, rfl⟩ : ∃ b : Nat, x9 = (b : Int) := ⟨x9.toNat, by omega⟩
    rw [fnm_int (i := i') (by omega) (by omega), show (1 : Int) + (ti : Int) = ((1 + ti : Nat) : Int) by omega]
    refine Stop.on ?_
    k_dflt (refine tel_go (by k_asm) (by k_asm) (by k_asm) (by k_asm) (by rfl) (by k_asm) (asked w (fk i') _ _ (1 + ti) (by omega) _) (by k_room) (by k_units) ?_ (fun h9 => h9.elim))
    rintro r8 news8 h8 tk8 F8 N8 ⟨tl8, rfl, ho8, hd8⟩
    obtain ⟨hk1, ho8⟩ := offL_uncons ho8
    obtain ⟨hk2, ho8⟩ := offL_uncons ho8
    have hbz : vs'.length ≤ 12 := by have q := datAll_len hd'; omega
    have hpz := hR'.top
    k_steps
    k_extra "and9"
    rename News _ _ _ _ => N9
    simp only [List.push_toArray] at N9
    refine LJ.finA ((j, listOf (.int (c' + 1) t9 :: jvs).toArray n) :: (bl', listOf (vs' ++ [r8]).toArray (nb' + 1)) :: (tl8 ++ rest')) (bl', vs' ++ [r8], nb' + 1, 1 + (1 + ti) * p', _, c' + 1, t9) (by assumption) N9 (by k_extra "sub9") (by k_extra "sub9") ?off
      ⟨es' ++ [askE (fk (es'.length - 1)) (1 + ti)], tl8 ++ rest', rfl, ?a1, ?a2, hr3, ?a3, ?a4, Rep.step hR' (by omega) (by omega) (by omega), ?a5, ?a6, ?a7⟩ (by k_extra "one9") ?same
    case off => exact off_of (offL_cons hoj (offL_cons hob (offL_app (fun p hp q hq e => ho8 q hq p (List.mem_append_right _ hp) e.symm) (offL_sub hoff' (by k_extra "sub9")))))
    case a1 => k_extra "nes8"
    case a2 => k_extra "nes8"
    case a3 => exact fun p hp => List.mem_append_right _ (hr4 p hp)
    case a4 =>
      rw [show es'.length - 1 = i' by omega]
      exact datAll_app (hd'.mono (by k_extra "sub9")) (.cons (hd8.mono (by k_extra "sub9")) .nil)
    case a5 => simp; omega
    case a6 => dsimp only; omega
    case a7 => dsimp only; push_cast; omega
    case same => k_extra "same9"
  case done =>
    rintro ⟨bl', vs', nb', p', tp', c', t'⟩ nx' u' h' tk' ⟨es', rest', rfl, hr1, hr2, hr3, hr4, hd', hR', hlen', h0', h1'⟩ F' N'
    dsimp only at hr2 hr3 hd' hR' h0' h1' F' N'
    clear lF' lN'
    have hne' := hr3.symm
    k_steps
    all_goals k_extra "and9"
    all_goals
      refine hret _ ((j, listOf (.int c' t' :: jvs).toArray n) :: (_, tupO [.ref bl', _] 0) :: (bl', listOf vs'.toArray nb') :: rest') _ _ (by assumption) (news_sub (by assumption) (List.forall_mem_cons.mpr ⟨by k_mem, List.forall_mem_cons.mpr ⟨List.mem_cons_self, by k_extra "sub9"⟩⟩)) ⟨c', t', n, _, bl', 0, nb', vs', _, es', p', _, rfl, rfl, ?b1, ?b2, List.mem_cons_self, List.mem_cons_of_mem _ List.mem_cons_self, ?b3, hR', h0', by omega, ?b4⟩
      case b1 => k_extra "nes8"
      case b2 => exact fun p hp => List.mem_cons_of_mem _ (List.mem_cons_of_mem _ (hr4 p hp))
      case b3 => exact hd'.mono (by k_extra "sub9")
      case b4 => first | rw [if_pos (by omega)] | rw [if_neg (by omega)]
theorem reg_words_Hea : True := by
  k_with_none
  w_top off
  k_with "for!" => fail "no word"
  k_with "memr9" => first
    | with_reducible assumption
    | with_reducible exact List.mem_cons_self
    | (with_reducible refine List.mem_cons_of_mem _ ?_; k_extra "memr9")
    | (with_reducible refine List.mem_append_right _ ?_; k_extra "memr9")
    | (with_reducible refine List.mem_append_left _ ?_; k_extra "memr9")
  k_with "mem9" => first
    | k_extra "memr9"
    | assumption
    | k_mem
    | (simp only [List.mem_cons, List.mem_append] at *; simp only [*, true_or, or_true])
    | grind
  k_with "sub8" => first
    | exact List.forall_mem_nil _
    | (refine' List.forall_mem_cons.mpr ⟨?m8, ?_⟩; (case m8 => k_mem); k_extra "sub8")
    | (refine' List.forall_mem_append.mpr ⟨?m8, ?_⟩; (case m8 => k_extra "sub8"); k_extra "sub8")
    | (intro p8 h8; k_mem)
  k_with "sub9" => first
    | k_extra "sub8"
    | (intro p9 h9; first
      | exact h9
      | (simp only [List.mem_cons, List.mem_append] at h9 ⊢; grind))
  k_with "dat9" => repeat' (first
    | exact DatIn.str _ _
    | exact DatIn.int _ _
    | exact DatAll.nil
    | assumption
    | (refine' DatAll.cons ?_ ?_)
    | (refine' DatIn.tuple ?m9 ?_; (case m9 => k_extra "mem9"))
    | (refine' DatIn.list ?m9 ?_; (case m9 => k_extra "mem9"))
    | (refine' DatIn.mono ?s9 ?h9; (case h9 => assumption); (case s9 => k_extra "sub9")))
  k_with "and9" => first
    | ((fail_if_success (fail_if_success (rename _ ∧ _ => hc9))); refine foldP (fun G9 hG9 => ?_); (repeat' (rename _ ∧ _ => hc9; refine and_go hc9 (fun hc8 hc7 => ?_); clear hc9)); refine hG9 ?_; clear hG9 G9)
    | skip
  k_with "fold9" => ((fail_if_success (fail_if_success k_fold)); refine (let q9 := _; let e9 := _; (?_ : wpAny _ _ _ q9 e9 _)))
  k_with "ne9" => first
    | assumption
    | (refine' ne_all ?h9 ?s9; (case h9 => assumption); (case s9 => k_extra "sub9"))
    | (refine' ne_allT ?h9 ?s9; (case h9 => assumption); (case s9 => k_extra "sub9"))
  k_with "off9" => (
    refine' off_of ?_
    repeat' (first
    | exact offL_nil
    | (refine' offL_sub ?h9 ?s9; (case h9 => assumption); (case s9 => k_extra "sub9"))
    | (refine' offL_cons ?o9 ?_; (case o9 => k_extra "ne9"))
    | (refine' offL_app ?_ ?_)))
  k_with "split9" => first | exact Split.base | (refine Split.cons ?_; k_extra "split9") | (refine Split.app ?_; k_extra "split9")
  k_with "same9" => (intro z9 h1 h2 h3; (simp only [List.mem_cons, List.not_mem_nil, or_false, forall_eq_or_imp, forall_eq] at h2); (simp only [List.contains_cons, List.contains_nil, Bool.or_false, Bool.or_eq_false_iff, beq_eq_false_iff_ne, ne_eq] at h3); (simp [h1, h2, h3, kstB]; done))
  k_with "sameW9" => (intro z9 h2 h3; (simp only [List.mem_cons, List.not_mem_nil, or_false, forall_eq_or_imp, forall_eq] at h2); (simp only [List.contains_cons, List.contains_nil, Bool.or_false, Bool.or_eq_false_iff, beq_eq_false_iff_ne, ne_eq] at h3); (simp [h2, h3, kstB]; done))
  k_with "one9" => (first | exact List.forall_mem_nil _ | (refine' List.forall_mem_cons.mpr ⟨?a9, ?_⟩; (case a9 => with_unfolding_all rfl); k_extra "one9"))
  k_with "offE9" => ((try dsimp only); (repeat (refine' List.forall_mem_cons.mpr ⟨?o9, ?_⟩; (case o9 => ((try dsimp only); k_ne)))); (repeat' (rename _ ∧ _ => hc9; rcases hc9 with ⟨hc8, hc7⟩)); first | exact List.forall_mem_nil _ | assumption | exact lt_ne (by assumption) | exact gt_ne (by assumption))
  k_with "rot9" => repeat' (first | exact Rot.here | refine' Rot.next ?_)
  k_with "nes8" => repeat' (first | assumption | exact List.forall_mem_nil _ | (refine' List.forall_mem_cons.mpr ⟨?m8, ?_⟩; (case m8 => dsimp only; first | exact Nat.ne_of_gt (by assumption) | exact Nat.ne_of_lt (by assumption) | assumption | exact Ne.symm (by assumption) | k_ne)) | exact lt_ne (by assumption) | refine' List.forall_mem_append.mpr ⟨?_, ?_⟩)
  k_with "offs8" => repeat' (first | assumption | exact offL_nil | exact offL_swap (by assumption) | (refine' offL_cons ?m8 ?_; (case m8 => dsimp only; first | exact lt_ne (by assumption) | (refine' lt_ne2 ?A8 ?B8; (case B8 => assumption); (case A8 => assumption)) | k_extra "ne9")) | refine' offL_app ?_ ?_)
  k_with "sel9" => repeat' (first | exact Sel.base | (refine' Sel.old ?m9 ?_; (case m9 => assumption)) | (refine' Sel.cut ?m9 ?_; (case m9 => repeat (first | exact List.mem_cons_self | refine List.mem_cons_of_mem _ ?_))) | refine' Sel.keep ?_ | refine' Sel.app ?_)
  k_with "mems9" => repeat' (first | exact List.forall_mem_nil _ | (refine' List.forall_mem_cons.mpr ⟨?m9, ?_⟩; (case m9 => k_extra "mem9")))
  k_with "isd9" => repeat' (first | (refine' dat_cons ?m9 ?_; (case m9 => first | (intro _; k_mem) | (intro q9; exact absurd q9 (dict_no (by assumption))) | (intro q9; exact absurd q9 (by simp [isDat, instObj, dictOf, itR])))) | (refine' dat_app ?m9 ?_; (case m9 => k_extra "sub9")) | (refine' dat_end ?m9; (case m9 => k_extra "sub9")))
  k_with "~execs cons" => k_extra "fold9"
  k_with "~call builtin:isinstance" => (k_here; (with_reducible show wpAny _ _ (call _ [Value.ref _, Value.type _]) _ _ _); kit_cont; k_dflt kit_objs)
  k_with "~eval Call" => k_extra "fold9"
  k_with "~eval Compare" => k_extra "fold9"
  k_with "~eval BinOp" => k_extra "fold9"
  k_with "~eval Tuple" => k_extra "fold9"
  k_with "~eval List" => k_extra "fold9"
  k_with "~eval Subscript" => k_extra "fold9"
  k_with "~eval Attribute" => k_extra "fold9"
  k_with "~eval IfExp" => k_extra "fold9"
  k_with "lt9" => first
    | with_reducible assumption
    | exact cj0 (by with_reducible assumption)
    | exact cj1 (by with_reducible assumption)
    | exact cj2 (by with_reducible assumption)
    | exact cj3 (by with_reducible assumption)
    | exact cj4 (by with_reducible assumption)
    | exact cj5 (by with_reducible assumption)
    | exact cj6 (by with_reducible assumption)
    | exact cj7 (by with_reducible assumption)
    | exact cz1 (by with_reducible assumption)
    | exact cz2 (by with_reducible assumption)
    | exact cz3 (by with_reducible assumption)
    | exact cz4 (by with_reducible assumption)
    | exact cz5 (by with_reducible assumption)
    | exact cz6 (by with_reducible assumption)
    | exact cz7 (by with_reducible assumption)
    | fail "lt9"
  k_with "om9" => first
    | with_reducible assumption
    | exact Nat.le_of_ble_eq_true rfl
    | exact Ne.symm (by with_reducible assumption)
    | ((with_reducible show (_ : Nat) ≠ _); first | exact Nat.ne_of_lt (by k_extra "lt9") | exact Nat.ne_of_gt (by k_extra "lt9"))
    | ((with_reducible show (_ : Nat) < _); first
      | exact rm1 (by with_reducible assumption) (by exact rfl)
      | exact rm0 (by with_reducible assumption)
      | exact rn1 (by with_reducible assumption) (by exact rfl)
      | exact rn3 (by with_reducible assumption) (by exact rfl)
      | exact rf2 (by with_reducible assumption) (by with_reducible assumption) (by exact rfl)
      | exact rm3 (by with_reducible assumption) (by exact rfl)
      | exact uf2 (by with_reducible assumption) (by with_reducible assumption) (by exact rfl)
      | exact um3 (by with_reducible assumption) (by exact rfl)
      | exact rf1 (by with_reducible assumption) (by with_reducible assumption) (by exact rfl)
      | exact rf3 (by with_reducible assumption) (by with_reducible assumption) (by exact rfl)
      | exact uf3 (by with_reducible assumption) (by with_reducible assumption) (by exact rfl)
      | k_extra "lt9")
    | fail "om9"
  k_with "~@k_all" => first | assumption | exact lt_ne (by assumption) | exact gt_ne (by assumption) | (refine' List.forall_mem_append.mpr ⟨?q9a, ?q9b⟩; (case q9a => k_all); (case q9b => k_all))
  k_with "~call builtin:len" => (k_here; (with_reducible show wpAny _ _ (call (Value.builtin "len") [Value.ref _]) _ _ _); (refine KM.len_K (by k_asm) (by k_dflt k_mem) rfl (by simp; omega) ?_))
  k_with "~@k_room" => ((try simp only [depth_mark, depth_under_make, depth_under_kw, depth_in1, depth_deeper, depth_caller]); (try dsimp only [ktrTop]); omega)
  k_with "~@k_units" => ((have hcL9 := cLine_is); (try simp only [units_in1, units_deeper, Around.mark_units, units_caller]); (try dsimp only [ktrTop]); omega)
  k_with "~exec While Compare cons nil" => k_extra "while!"
  k_with "~pyIter ref" => k_extra "iter!"
  k_with "~call ref" => k_extra "call!"
  k_with "~exec For Name Call cons nil" => (k_extra "for!"; k_here; (rename Fr _ _ _ _ => z9lF'); (with_unfolding_all refine' For_invVF z9lF' ?q9k1 ?q9k2 ?_; (case q9k1 => exact rfl); (case q9k2 => exact rfl); k_whole))
  k_with "~exec For Name Name cons nil" => (k_extra "for!"; k_here; (rename Fr _ _ _ _ => z9lF'); (with_unfolding_all refine' For_invVF z9lF' ?q9k1 ?q9k2 ?_; (case q9k1 => exact rfl); (case q9k2 => exact rfl); k_whole))
  k_with "~@k_mem" => first | assumption | exact List.mem_cons_self | (refine List.mem_cons_of_mem _ ?_; k_mem) | (refine List.mem_append_left _ ?_; k_mem) | (refine List.mem_append_right _ ?_; k_mem)
  k_with "~subscriptTail Name Slice ref ref" => (k_here; (with_reducible show wpAny _ _ (subscriptTail _ (PySem.Expr.Slice _ none none _) (Value.ref _) (Value.ref _)) _ _ _); k_dflt (refine' tup_from ?q9F ?q9N ?q9b ?q9o ?q9l ?q9e ?_ ?q9s ?q9t ?q9z; (case q9F => k_asm); (case q9N => k_asm); (case q9b => k_mem); (case q9o => decide); (case q9l => exact Nat.le_of_ble_eq_true rfl); (case q9e => kl_lit); (case q9s => with_unfolding_all rfl); (case q9t => (intro _; with_unfolding_all rfl)); (case q9z => (simp only [List.length_cons, List.length_nil, sizeLine_eq]; omega))); intro z9D' z9h' z9F' z9N' z9l1; (try k_lt z9l1); (try k_sweep))
  k_with "~exec For Name Subscript cons nil" => (k_here; (rename Fr _ _ _ _ => z9lF'); (with_unfolding_all refine' For_turns z9lF' ?_; k_whole))
  k_with "~exec For Name Name cons nil" => (k_extra "turns!"; k_here; (rename Fr _ _ _ _ => z9lF'); (with_unfolding_all refine' For_turns z9lF' ?_; k_whole))
  k_with "~pyIter ref" => (k_here; (with_reducible show wpAny _ _ (pyIter (Value.ref _)) (fun it s₂ => TurnsAt _ _ _ _ _ _ _ _ _ it s₂) _ _); (rename Fr _ _ _ _ => z9lF'); (rename News _ _ _ _ => z9lN'); k_dflt (refine' iter_tupTurns ?q9h z9lF' z9lN' ?q9m ?q9c ?q9d ?_; (case q9h => with_unfolding_all rfl); (case q9m => k_mem); (case q9c => exact rfl); (case q9d => exact rfl)); clear z9lF'; intro z9i' z9l1; (try k_lt z9l1))
  k_with "~pyIter ref" => (k_here; (with_reducible show wpAny _ _ (pyIter (Value.ref _)) (fun it s₂ => TurnsAt _ _ _ _ _ _ _ _ _ it s₂) _ _); (rename Fr _ _ _ _ => z9lF'); (rename News _ _ _ _ => z9lN'); k_dflt (refine' iter_listTurns ?q9h z9lF' z9lN' ?q9m ?q9c ?q9d ?_; (case q9h => with_unfolding_all rfl); (case q9m => k_mem); (case q9c => exact rfl); (case q9d => exact rfl)); clear z9lF'; intro z9i' z9l1; (try k_lt z9l1))
  k_with "~UnrEndW" => ((rename Fr _ _ _ _ => z9lF'); (rename News _ _ _ _ => z9lN'); (refine' unrEnd z9lF' z9lN' ?q9c9 ?q9o9 ⟨?q9k9, ?_⟩; (case q9c9 => repeat' (first | exact Cut.base | refine' Cut.cons ?_)); (case q9o9 => k_extra "offE9"); (case q9k9 => k_subL)); clear z9lF' z9lN')
  k_with "~@size_fits" => (simp only [List.size_toArray, List.length_append, List.length_cons, List.length_nil, sizeLine_eq]; omega)
  k_with "~call builtin:list.extend" => (k_here; (with_reducible show wpAny _ _ (call (Value.builtin _) [Value.ref _, Value.ref _]) _ _ _); k_dflt (refine' ext_list ?q9F ?q9N ?q9b ?q9ne ?q9U ?q9z ?_; (case q9F => k_asm); (case q9N => k_asm); (case q9b => k_mem); (case q9U => k_upd); (case q9ne => exact List.cons_ne_nil _ _); (case q9z => (simp only [List.length_append, List.length_cons, List.length_nil]; omega))); intro z9h' z9F' z9N'; (try k_sweep))
  k_with "~call builtin:list.pop" => (k_here; (with_reducible show wpAny _ _ (call (Value.builtin _) [Value.ref _]) _ _ _); k_dflt (refine' pop_list ?q9F ?q9N ?q9U ?q9z ?_; (case q9F => k_asm); (case q9N => k_asm); (case q9U => k_upd); (case q9z => omega)); intro z9h' z9F' z9N'; (try k_sweep))
  k_with "~exec Raise some none" => (k_here; refine raise_fault (by rfl) ?_)
  k_with "~call ref" => ((with_reducible show wpAny _ _ (call (Value.ref 44) [_]) _ _ _); k_here; k_dflt (refine' call_fault ?q9k1 ?q9k2 ?q9k3 ?_; (case q9k1 => k_asm); (case q9k2 => k_asm); (case q9k3 => k_asm); intro z9e' z9t' z9h' z9F' z9N' z9l1 z9l2 z9l3 z9n' z9k'; (try k_lt z9l1); (try k_lt2 z9l2); (try k_lt z9l3); (try k_sweep); k_enter))
  k_with "~getMethod type:Exception" => (k_here; (with_reducible refine' method_type ?q9F ?q9X exc_kind exc_stub ?q9e ?q9h ?_); k_dflt ((case q9F => k_asm); (case q9X => k_asm); (case q9e => k_is); (case q9h => k_handed)))
  k_with "~call builtin:Exception.__init__" => (k_here; k_dflt (refine' exc_init ?q9F ?q9X ?q9N ?q9U ?_; (case q9F => k_asm); (case q9X => k_asm); (case q9N => k_asm); (case q9U => k_updF); intro z9t' z9h' z9F' z9N'; (try dsimp only at z9N'); (try k_sweep)))
  k_with "~setAttr ref" => ((with_reducible show wpAny _ _ (setAttr (Value.ref _) (PySem.Str.ofString "text") _) _ _ _); k_here; k_dflt (refine' set_text ?q9T ?q9F ?q9X ?q9N ?q9U ?_; (case q9T => rfl); (case q9F => k_asm); (case q9X => k_asm); (case q9N => k_asm); (case q9U => k_updF); intro z9d' z9h' z9tk' z9F' z9N'; (try dsimp only at z9N'); (try k_sweep)))
  k_with "~exec Raise some none" => (k_here; k_dflt (refine raise_fault' (by rfl) ?_))
  k_with "~Raises44" => (k_here; k_dflt (refine' raises_of ?q9F ?q9X ?q9N ?q9m ?_; (case q9F => k_asm); (case q9X => k_asm); (case q9N => k_asm); (case q9m => k_mem)))
  k_with "~leaving ref" => (k_here; k_dflt (refine' leave_newB ?q9k1 ?q9k2 ?q9k3 ?q9k4 ?_; (case q9k1 => assumption); (case q9k2 => assumption); (case q9k3 => assumption); (case q9k4 => k_mem); k_whole; intro z9h' z9R' z9U'; (try dsimp only at z9R' z9U' ⊢)))
  k_with "~compareOp NotIn str ref" => (k_here; k_dflt (first
    | refine kdg_notin (knd := PySem.strKind _ _) (by k_asm) (by k_mem) (by assumption) (by assumption) (strKind_is _ _ _ _) true (by rw [‹valueAt _ _ = some _›]; rfl) ?_
    | refine kdg_notin (knd := PySem.strKind _ _) (by k_asm) (by k_mem) (by assumption) (by assumption) (strKind_is _ _ _ _) false (by rw [‹valueAt _ _ = none›]; rfl) ?_); (try dsimp only [Bool.not_true, Bool.not_false]))
  k_with "~compareOp In str ref" => (k_here; k_dflt (first
    | refine kda_in (knd := PySem.strKind _ _) (by k_asm) (by k_mem) (by assumption) (by assumption) (strKind_is _ _ _ _) true (by rw [‹valueAt _ _ = some _›]; rfl) ?_
    | refine kda_in (knd := PySem.strKind _ _) (by k_asm) (by k_mem) (by assumption) (by assumption) (strKind_is _ _ _ _) false (by rw [‹valueAt _ _ = none›]; rfl) ?_))
  k_with "~subscriptTail" => (k_here; k_dflt ((with_reducible show wpAny _ _ (subscriptTail _ _ (Value.ref _) (Value.str _ _)) _ _ _); refine kda_item (knd := PySem.strKind _ _) (by k_asm) (by k_mem) (by assumption) (strKind_is _ _ _ _) (by assumption) ?_))
  k_with "~subscriptTail" => (k_here; (with_reducible show wpAny _ _ (subscriptTail _ _ (Value.ref _) (Value.int 1 _)) _ _ _); k_dflt (refine item_kind (by k_asm) (by assumption) (by k_extra "sub9") ?_ (by with_unfolding_all rfl) (by intro _; with_unfolding_all rfl)); intro z9t')
  k_with "~@k_upd" => ((with_reducible show Upd _ _ _ (_ ++ _) _); refine' Upd.app ?q9a ?q9b; (case q9a => k_all); (case q9b => k_upd))
  k_with "~@k_updF" => ((with_reducible show UpdF _ _ (_ ++ _) _); refine' UpdF.app ?q9a ?q9b; (case q9a => k_all); (case q9b => k_updF))
  trivial
theorem heaped (w : World) (j : Addr) (c : Int) (t : Tok) (jvs : List Value) (ns : List Int) (n : Nat) (news : List (Addr × Obj)) (hj : ∀ p ∈ news, p.1 ≠ j) (hi : IntsAre jvs ns) (hc : 0 ≤ c) (hc' : c ≤ 20) (hl : jvs.length ≤ 40) :
    Tel w 372 [.ref j] 12 ((j, listOf (.int c t :: jvs).toArray n) :: news)
      (fun r news' => ∃ c' t' n' tp bl nt nb vs due es h ty rest, r = .ref tp ∧ news' = (j, listOf (.int c' t' :: jvs).toArray n') :: rest ∧ (∀ p ∈ rest, p.1 ≠ j) ∧ (∀ p ∈ news, p ∈ rest) ∧ (tp, tupO [.ref bl, due] nt) ∈ rest ∧ (bl, listOf vs.toArray nb) ∈ rest ∧ DatAll rest vs (es.map Ex.dat) ∧ Hea es h ty ∧ 1 ≤ es.length ∧ 0 ≤ c' ∧ c' ≤ 40 ∧
        ((h ≤ 100 ∧ DatIn (kone ++ rest) due ty.dat) ∨ (¬ h ≤ 100 ∧ due = .none))) False := by
  have lp : Challenge.rw_pq0356_01.foot = Challenge.rw_pq0356_01.foot ∧ hd.heap_39 = hd.heap_39 := by k_fill; exact ⟨rfl, rfl⟩
  clear lp
  intro mean mg mb dp un gd cn cs a ccd cl outer A₀ base h₀ L m s Q E B F X N T hk hdp hun hret _
  k_with "for!" => skip
  k_with "iter!" => ((with_reducible show wpAny _ _ (pyIter _) (fun it s₂ => LoopAtV _ _ _ _ _ _ _ _ _ it s₂) _ _); refine Stop.out ?_)
  k_with "call!" => ((first | (with_reducible show wpAny _ _ (call (Value.ref 337) _) _ _ _) | (with_reducible show wpAny _ _ (call (Value.ref 351) _) _ _ _) | (with_reducible show wpAny _ _ (call (Value.ref 358) _) _ _ _)); refine Stop.out ?_)
  refine wpAny_call ?_
  k_dflt ktr_enter
  k_steps
  refine Stop.on ?_
  k_dflt (refine tel_go (by k_asm) (by k_asm) (by k_asm) (by k_asm) (by rfl) (by k_asm) (spoon w j c 6 t _ jvs ns n news hj hi hc (by omega) hl (by decide) (by decide)) (by k_room) (by k_units) ?_ (fun h9 => h9.elim))
  rintro r9 news9 h9 tk9 F9 N9 ⟨x9, tr9, t9, rfl, hx0, hx1, rfl⟩
  have hx3 : x9 < 1000 := by omega
  have hx2 : Stop (x9 < 6) := Stop.on hx1
  clear hx1
  k_steps
  obtain ⟨b9, rfl⟩ : ∃ b : Nat, x9 = (b : Int) := ⟨x9.toNat, by omega⟩
  refine Stop.on ?_
  rename IsRange _ _ _ _ _ _ _ _ => lR'
  rename Fr _ _ _ _ => lF'
  rename News _ _ _ _ => lN'
  rw [show (1 : Int) + (b9 : Int) = ((1 + b9 : Nat) : Int) by omega] at lR'
  have hx1 : (b9 : Int) < 6 := hx2.out
  with_unfolding_all refine' loop_range (b := 1 + b9) (news := (j, listOf (.int (c + 1) t9 :: jvs).toArray n) :: (?bl, listOf [].toArray 0) :: (?ad, tupO [.str (Str.ofString "var") ?u1, .int 1 ?u2, .str (Str.ofString "Z") ?u3] 0) :: news) (σ := Addr × List Value × Nat × Nat × Tok × Value × Int × Tok) (fun c => [(Str.ofString "bodies", .ref c.1), (Str.ofString "high", .int c.2.2.2.1 c.2.2.2.2.1), (Str.ofString "tree", c.2.2.2.2.2.1)]) [Str.ofString "wraps", Str.ofString "core"] (fun i k nx => ∃ es ty rest, nx = (j, listOf (.int k.2.2.2.2.2.2.1 k.2.2.2.2.2.2.2 :: jvs).toArray n) :: (k.1, listOf k.2.1.toArray k.2.2.1) :: rest ∧ (∀ p ∈ rest, p.1 ≠ j) ∧ (∀ p ∈ rest, p.1 ≠ k.1) ∧ j ≠ k.1 ∧ (∀ p ∈ news, p ∈ rest) ∧ DatAll rest k.2.1 (es.map Ex.dat) ∧ Hea es k.2.2.2.1 ty ∧ es.length = i ∧ 0 ≤ k.2.2.2.2.2.2.1 ∧ k.2.2.2.2.2.2.1 ≤ 21 + 2 * i ∧ DatIn (kone ++ rest) k.2.2.2.2.2.1 ty.dat) (?bl, [], 0, 0, _, _, c + 1, t9) (by rfl) lR' (by omega) lF' ?hN ⟨[], .var, _, rfl, ?l2, ?l3, ?l8, ?l4, .nil, Hea.base, rfl, ?l6, ?l7, ?l9⟩ ?l1 ?turn ?done
  case hN => exact news_sub lN' (by k_extra "sub9")
  case l1 => k_extra "one9"
  case l2 => (try dsimp only); k_all
  case l3 => (try dsimp only); k_all
  case l8 => (try dsimp only); k_extra "and9"; exact Nat.ne_of_lt (by assumption)
  case l4 => k_extra "sub9"
  case l6 => (try dsimp only); omega
  case l7 => (try dsimp only); omega
  case l9 => rw [Ty.dat]; k_extra "dat9"
  case turn =>
    rintro i' ⟨bl', vs', nb', p', tp', tv', c', t'⟩ nx' tt' u' h' tk' own' hi' hoff' ⟨es', ty', rest', rfl, hr1, hr2, hr3, hr4, hd', hR', hlen', h0', h1', hty'⟩ F' N'
    dsimp only at hr2 hr3 hd' hR' h0' h1' F' N' hoff' hty'
    clear lF' lN'
    have hne' := hr3.symm
    have hoj : ∀ p ∈ own', p.1 ≠ j := fun p hp => hoff' p hp _ (.head _)
    have hob : ∀ p ∈ own', p.1 ≠ bl' := fun p hp => hoff' p hp _ (.tail _ (.head _))
    have hbz : vs'.length ≤ 12 := by have q := datAll_len hd'; omega
    have hpz := hR'.high
    have hth := hty'.handed
    simp only [List.cons_append] at N'
    try k_extra "fold9"
    k_steps
    refine Stop.on ?_
    k_dflt (refine tel_go (by k_asm) (by k_asm) (by k_asm) (by k_asm) (by rfl) (by k_asm) (spoon w j c' 3 t' _ jvs ns n _ (by k_extra "nes8") hi h0' (by omega) hl (by decide) (by decide)) (by k_room) (by k_units) ?_ (fun h9 => h9.elim))
    rintro r9 news9 h9 tk9 F9 N9 ⟨x9, tr9, t9, rfl, hx0, hx1, rfl⟩
    k_steps
    all_goals refine Stop.on ?_
    all_goals
      (k_dflt (first
        | refine tel_go (by k_asm) (by k_asm) (by k_asm) (by k_asm) (by rfl) (by k_asm) (spoon w j (c' + 1) 61 t9 _ jvs ns n _ (by k_extra "nes8") hi (by omega) (by omega) hl (by decide) (by decide)) (by k_room) (by k_units) ?_ (fun h9 => h9.elim)
        | refine tel_go (by k_asm) (by k_asm) (by k_asm) (by k_asm) (by rfl) (by k_asm) (spoon w j (c' + 1) 30 t9 _ jvs ns n _ (by k_extra "nes8") hi (by omega) (by omega) hl (by decide) (by decide)) (by k_room) (by k_units) ?_ (fun h9 => h9.elim))
       rintro r8 news8 h8 tk8 F8 N8 ⟨x8, tr8, t8, rfl, hw0, hw1, rfl⟩
       obtain ⟨wr, rfl⟩ : ∃ b : Nat, x8 = (b : Int) := ⟨x8.toNat, by omega⟩
       have hwr : wr ≤ 60 := by omega)
    all_goals k_steps
    all_goals refine Stop.on ?_
    · have hz : (i' : Int) = 0 := by assumption
      have hcd : coreE es'.length = .nm false := by rw [coreE, if_pos (by omega)]
      have hch : coreH es'.length = 1 := by rw [coreH, if_pos (by omega)]
      k_dflt (refine tel_go (by k_asm) (by k_asm) (by k_asm) (by k_asm) (by rfl) (by k_asm) (below w _ (coreE es'.length) _ wr (by omega) [(_, tupO [.str (Str.ofString "name") _, .str (Str.ofString "X") _] 0)] _ (by k_extra "sub9") (by rw [hcd, Ex.dat]; exact .tuple List.mem_cons_self (.cons (.str _ _) (.cons (.str _ _) .nil)))) (by k_room) (by k_units) ?_ (fun h9 => h9.elim))
      rintro r7 news7 h7 tk7 F7 N7 ⟨tl7, rfl, ho7, hd7⟩
      have ho7' := ho7
      repeat (obtain ⟨hk7, ho7⟩ := offL_uncons ho7)
      k_steps
      all_goals try (exfalso; omega)
      refine Stop.on ?_
      k_dflt (refine tel_go (by k_asm) (by k_asm) (by k_asm) (by k_asm) (by rfl) (by k_asm) (typed_below w tv' ty' _ wr (by omega) rest' _ (by k_extra "sub9") hty') (by k_room) (by k_units) ?_ (fun h9 => h9.elim))
      rintro r6 news6 h6 tk6 F6 N6 ⟨tl6, rfl, ho6, hd6⟩
      k_steps
      k_extra "and9"
      have o6j : ∀ p ∈ tl6, p.1 ≠ j := fun p hp => ho6 p hp (j, listOf (.int (c' + 1 + 1) t8 :: jvs).toArray n) (by k_mem)
      have o6b : ∀ p ∈ tl6, p.1 ≠ bl' := fun p hp => ho6 p hp (bl', listOf (vs'.toArray.push r7) (nb' + 1)) (by k_mem)
      have o6o : OffL own' tl6 := fun p hp q hq e => ho6 q hq p (by k_mem) e.symm
      have o7j : ∀ p ∈ tl7, p.1 ≠ j := fun p hp => ho7' p hp (j, listOf (.int (c' + 1 + 1) t8 :: jvs).toArray n) (by k_mem)
      have o7b : ∀ p ∈ tl7, p.1 ≠ bl' := fun p hp => ho7' p hp (bl', listOf vs'.toArray nb') (by k_mem)
      have o7o : OffL own' tl7 := fun p hp q hq e => ho7' q hq p (by k_mem) e.symm
      rename News _ _ _ _ => N9
      simp only [List.push_toArray] at N9
      refine' LJ.finA ((j, listOf (.int (c' + 1 + 1) t8 :: jvs).toArray n) :: (bl', listOf (vs' ++ [r7]).toArray (nb' + 1)) :: (tl6 ++ (tl7 ++ ([(_, tupO [.str (Str.ofString "name") _, .str (Str.ofString "X") _] 0)] ++ rest')))) (bl', vs' ++ [r7], nb' + 1, p' + (wr + coreH es'.length), _, r6, c' + 1 + 1, t8) (by assumption) N9 ?s1 ?s2 ?off ⟨es' ++ [belE wr (coreE es'.length)], belT wr ty', tl6 ++ (tl7 ++ ([(_, tupO [.str (Str.ofString "name") _, .str (Str.ofString "X") _] 0)] ++ rest')), rfl, ?a1, ?a2, hr3, ?a3, ?a4, Hea.step hR' (by omega) (by omega), ?a5, ?a6, ?a7, ?a8⟩ ?one ?same
      case s1 => k_extra "sub9"
      case s2 => k_extra "sub9"
      case one => rw [hch]; k_extra "one9"
      case off => exact off_of (offL_cons hoj (offL_cons hob (offL_app o6o (offL_app o7o (offL_app (by k_extra "offs8") (offL_sub hoff' (by k_extra "sub9")))))))
      case a1 => k_extra "nes8"
      case a2 => k_extra "nes8"
      case a3 => exact fun p hp => List.mem_append_right _ (List.mem_append_right _ (List.mem_append_right _ (hr4 p hp)))
      case a4 => rw [List.map_append]; exact (hd'.mono (by k_extra "sub9")).append (.cons (hd7.mono (by k_extra "sub9")) .nil)
      case a5 => simp; omega
      case a6 => dsimp only; omega
      case a7 => dsimp only; push_cast; omega
      case a8 => exact hd6.mono (by k_extra "sub9")
      case same => k_extra "same9"
    · have hz : ¬ (i' : Int) = 0 := by assumption
      have hcd : coreE es'.length = .rf (fk (i' - 1)) (.nm false) := by rw [coreE, if_neg (by omega), hlen']
      have hch : coreH es'.length = 2 := by rw [coreH, if_neg (by omega)]
      rename News _ _ _ _ => lN'
      rw [fnm_int (x := (i' : Int) - 1) (i := i' - 1) (by omega) (by omega)] at lN'
      k_dflt (refine tel_go (by k_asm) (by k_asm) (by k_asm) (by k_asm) (by rfl) (by k_asm) (below w _ (coreE es'.length) _ wr (by omega) [(_, tupO [.str (Str.ofString "ref") _, .str (fnm (fk (i' - 1)).val) _, .ref _] 0), (_, listOf [.ref _].toArray 0), (_, tupO [.str (Str.ofString "name") _, .str (Str.ofString "X") _] 0)] _ (by k_extra "sub9")
        (by rw [hcd, Ex.dat, Ex.dat]; exact .tuple List.mem_cons_self (.cons (.str _ _) (.cons (.str _ _) (.cons (.list (List.mem_cons_of_mem _ List.mem_cons_self) (.cons (.tuple (List.mem_cons_of_mem _ (List.mem_cons_of_mem _ List.mem_cons_self)) (.cons (.str _ _) (.cons (.str _ _) .nil))) .nil)) .nil))))) (by k_room) (by k_units) ?_ (fun h9 => h9.elim))
      rintro r7 news7 h7 tk7 F7 N7 ⟨tl7, rfl, ho7, hd7⟩
      have ho7' := ho7
      repeat (obtain ⟨hk7, ho7⟩ := offL_uncons ho7)
      k_steps
      all_goals try (exfalso; omega)
      refine Stop.on ?_
      k_dflt (refine tel_go (by k_asm) (by k_asm) (by k_asm) (by k_asm) (by rfl) (by k_asm) (typed_below w tv' ty' _ wr (by omega) rest' _ (by k_extra "sub9") hty') (by k_room) (by k_units) ?_ (fun h9 => h9.elim))
      rintro r6 news6 h6 tk6 F6 N6 ⟨tl6, rfl, ho6, hd6⟩
      k_steps
      k_extra "and9"
      have o6j : ∀ p ∈ tl6, p.1 ≠ j := fun p hp => ho6 p hp (j, listOf (.int (c' + 1 + 1) t8 :: jvs).toArray n) (by k_mem)
      have o6b : ∀ p ∈ tl6, p.1 ≠ bl' := fun p hp => ho6 p hp (bl', listOf (vs'.toArray.push r7) (nb' + 1)) (by k_mem)
      have o6o : OffL own' tl6 := fun p hp q hq e => ho6 q hq p (by k_mem) e.symm
      have o7j : ∀ p ∈ tl7, p.1 ≠ j := fun p hp => ho7' p hp (j, listOf (.int (c' + 1 + 1) t8 :: jvs).toArray n) (by k_mem)
      have o7b : ∀ p ∈ tl7, p.1 ≠ bl' := fun p hp => ho7' p hp (bl', listOf vs'.toArray nb') (by k_mem)
      have o7o : OffL own' tl7 := fun p hp q hq e => ho7' q hq p (by k_mem) e.symm
      rename News _ _ _ _ => N9
      simp only [List.push_toArray] at N9
      refine' LJ.finA ((j, listOf (.int (c' + 1 + 1) t8 :: jvs).toArray n) :: (bl', listOf (vs' ++ [r7]).toArray (nb' + 1)) :: (tl6 ++ (tl7 ++ ([(_, tupO [.str (Str.ofString "ref") _, .str (fnm (fk (i' - 1)).val) _, .ref _] 0), (_, listOf [.ref _].toArray 0), (_, tupO [.str (Str.ofString "name") _, .str (Str.ofString "X") _] 0)] ++ rest')))) (bl', vs' ++ [r7], nb' + 1, p' + (wr + coreH es'.length), _, r6, c' + 1 + 1, t8) (by assumption) N9 ?s1 ?s2 ?off ⟨es' ++ [belE wr (coreE es'.length)], belT wr ty', tl6 ++ (tl7 ++ ([(_, tupO [.str (Str.ofString "ref") _, .str (fnm (fk (i' - 1)).val) _, .ref _] 0), (_, listOf [.ref _].toArray 0), (_, tupO [.str (Str.ofString "name") _, .str (Str.ofString "X") _] 0)] ++ rest')), rfl, ?a1, ?a2, hr3, ?a3, ?a4, Hea.step hR' (by omega) (by omega), ?a5, ?a6, ?a7, ?a8⟩ ?one ?same
      case s1 => k_extra "sub9"
      case s2 => k_extra "sub9"
      case one => rw [hch]; k_extra "one9"
      case off => exact off_of (offL_cons hoj (offL_cons hob (offL_app o6o (offL_app o7o (offL_app (by k_extra "offs8") (offL_sub hoff' (by k_extra "sub9")))))))
      case a1 => k_extra "nes8"
      case a2 => k_extra "nes8"
      case a3 => exact fun p hp => List.mem_append_right _ (List.mem_append_right _ (List.mem_append_right _ (hr4 p hp)))
      case a4 => rw [List.map_append]; exact (hd'.mono (by k_extra "sub9")).append (.cons (hd7.mono (by k_extra "sub9")) .nil)
      case a5 => simp; omega
      case a6 => dsimp only; omega
      case a7 => dsimp only; push_cast; omega
      case a8 => exact hd6.mono (by k_extra "sub9")
      case same => k_extra "same9"
    · have hz : (i' : Int) = 0 := by assumption
      have hcd : coreE es'.length = .nm false := by rw [coreE, if_pos (by omega)]
      have hch : coreH es'.length = 1 := by rw [coreH, if_pos (by omega)]
      k_dflt (refine tel_go (by k_asm) (by k_asm) (by k_asm) (by k_asm) (by rfl) (by k_asm) (below w _ (coreE es'.length) _ wr (by omega) [(_, tupO [.str (Str.ofString "name") _, .str (Str.ofString "X") _] 0)] _ (by k_extra "sub9") (by rw [hcd, Ex.dat]; exact .tuple List.mem_cons_self (.cons (.str _ _) (.cons (.str _ _) .nil)))) (by k_room) (by k_units) ?_ (fun h9 => h9.elim))
      rintro r7 news7 h7 tk7 F7 N7 ⟨tl7, rfl, ho7, hd7⟩
      have ho7' := ho7
      repeat (obtain ⟨hk7, ho7⟩ := offL_uncons ho7)
      k_steps
      all_goals try (exfalso; omega)
      refine Stop.on ?_
      k_dflt (refine tel_go (by k_asm) (by k_asm) (by k_asm) (by k_asm) (by rfl) (by k_asm) (typed_below w tv' ty' _ wr (by omega) rest' _ (by k_extra "sub9") hty') (by k_room) (by k_units) ?_ (fun h9 => h9.elim))
      rintro r6 news6 h6 tk6 F6 N6 ⟨tl6, rfl, ho6, hd6⟩
      k_steps
      k_extra "and9"
      have o6j : ∀ p ∈ tl6, p.1 ≠ j := fun p hp => ho6 p hp (j, listOf (.int (c' + 1 + 1) t8 :: jvs).toArray n) (by k_mem)
      have o6b : ∀ p ∈ tl6, p.1 ≠ bl' := fun p hp => ho6 p hp (bl', listOf (vs'.toArray.push r7) (nb' + 1)) (by k_mem)
      have o6o : OffL own' tl6 := fun p hp q hq e => ho6 q hq p (by k_mem) e.symm
      have o7j : ∀ p ∈ tl7, p.1 ≠ j := fun p hp => ho7' p hp (j, listOf (.int (c' + 1 + 1) t8 :: jvs).toArray n) (by k_mem)
      have o7b : ∀ p ∈ tl7, p.1 ≠ bl' := fun p hp => ho7' p hp (bl', listOf vs'.toArray nb') (by k_mem)
      have o7o : OffL own' tl7 := fun p hp q hq e => ho7' q hq p (by k_mem) e.symm
      rename News _ _ _ _ => N9
      simp only [List.push_toArray] at N9
      refine' LJ.finA ((j, listOf (.int (c' + 1 + 1) t8 :: jvs).toArray n) :: (bl', listOf (vs' ++ [r7]).toArray (nb' + 1)) :: (tl6 ++ (tl7 ++ ([(_, tupO [.str (Str.ofString "name") _, .str (Str.ofString "X") _] 0)] ++ rest')))) (bl', vs' ++ [r7], nb' + 1, p' + (wr + coreH es'.length), _, r6, c' + 1 + 1, t8) (by assumption) N9 ?s1 ?s2 ?off ⟨es' ++ [belE wr (coreE es'.length)], belT wr ty', tl6 ++ (tl7 ++ ([(_, tupO [.str (Str.ofString "name") _, .str (Str.ofString "X") _] 0)] ++ rest')), rfl, ?a1, ?a2, hr3, ?a3, ?a4, Hea.step hR' (by omega) (by omega), ?a5, ?a6, ?a7, ?a8⟩ ?one ?same
      case s1 => k_extra "sub9"
      case s2 => k_extra "sub9"
      case one => rw [hch]; k_extra "one9"
      case off => exact off_of (offL_cons hoj (offL_cons hob (offL_app o6o (offL_app o7o (offL_app (by k_extra "offs8") (offL_sub hoff' (by k_extra "sub9")))))))
      case a1 => k_extra "nes8"
      case a2 => k_extra "nes8"
      case a3 => exact fun p hp => List.mem_append_right _ (List.mem_append_right _ (List.mem_append_right _ (hr4 p hp)))
      case a4 => rw [List.map_append]; exact (hd'.mono (by k_extra "sub9")).append (.cons (hd7.mono (by k_extra "sub9")) .nil)
      case a5 => simp; omega
      case a6 => dsimp only; omega
      case a7 => dsimp only; push_cast; omega
      case a8 => exact hd6.mono (by k_extra "sub9")
      case same => k_extra "same9"
    · have hz : ¬ (i' : Int) = 0 := by assumption
      have hcd : coreE es'.length = .rf (fk (i' - 1)) (.nm false) := by rw [coreE, if_neg (by omega), hlen']
      have hch : coreH es'.length = 2 := by rw [coreH, if_neg (by omega)]
      rename News _ _ _ _ => lN'
      rw [fnm_int (x := (i' : Int) - 1) (i := i' - 1) (by omega) (by omega)] at lN'
      k_dflt (refine tel_go (by k_asm) (by k_asm) (by k_asm) (by k_asm) (by rfl) (by k_asm) (below w _ (coreE es'.length) _ wr (by omega) [(_, tupO [.str (Str.ofString "ref") _, .str (fnm (fk (i' - 1)).val) _, .ref _] 0), (_, listOf [.ref _].toArray 0), (_, tupO [.str (Str.ofString "name") _, .str (Str.ofString "X") _] 0)] _ (by k_extra "sub9")
        (by rw [hcd, Ex.dat, Ex.dat]; exact .tuple List.mem_cons_self (.cons (.str _ _) (.cons (.str _ _) (.cons (.list (List.mem_cons_of_mem _ List.mem_cons_self) (.cons (.tuple (List.mem_cons_of_mem _ (List.mem_cons_of_mem _ List.mem_cons_self)) (.cons (.str _ _) (.cons (.str _ _) .nil))) .nil)) .nil))))) (by k_room) (by k_units) ?_ (fun h9 => h9.elim))
      rintro r7 news7 h7 tk7 F7 N7 ⟨tl7, rfl, ho7, hd7⟩
      have ho7' := ho7
      repeat (obtain ⟨hk7, ho7⟩ := offL_uncons ho7)
      k_steps
      all_goals try (exfalso; omega)
      refine Stop.on ?_
      k_dflt (refine tel_go (by k_asm) (by k_asm) (by k_asm) (by k_asm) (by rfl) (by k_asm) (typed_below w tv' ty' _ wr (by omega) rest' _ (by k_extra "sub9") hty') (by k_room) (by k_units) ?_ (fun h9 => h9.elim))
      rintro r6 news6 h6 tk6 F6 N6 ⟨tl6, rfl, ho6, hd6⟩
      k_steps
      k_extra "and9"
      have o6j : ∀ p ∈ tl6, p.1 ≠ j := fun p hp => ho6 p hp (j, listOf (.int (c' + 1 + 1) t8 :: jvs).toArray n) (by k_mem)
      have o6b : ∀ p ∈ tl6, p.1 ≠ bl' := fun p hp => ho6 p hp (bl', listOf (vs'.toArray.push r7) (nb' + 1)) (by k_mem)
      have o6o : OffL own' tl6 := fun p hp q hq e => ho6 q hq p (by k_mem) e.symm
      have o7j : ∀ p ∈ tl7, p.1 ≠ j := fun p hp => ho7' p hp (j, listOf (.int (c' + 1 + 1) t8 :: jvs).toArray n) (by k_mem)
      have o7b : ∀ p ∈ tl7, p.1 ≠ bl' := fun p hp => ho7' p hp (bl', listOf vs'.toArray nb') (by k_mem)
      have o7o : OffL own' tl7 := fun p hp q hq e => ho7' q hq p (by k_mem) e.symm
      rename News _ _ _ _ => N9
      simp only [List.push_toArray] at N9
      refine' LJ.finA ((j, listOf (.int (c' + 1 + 1) t8 :: jvs).toArray n) :: (bl', listOf (vs' ++ [r7]).toArray (nb' + 1)) :: (tl6 ++ (tl7 ++ ([(_, tupO [.str (Str.ofString "ref") _, .str (fnm (fk (i' - 1)).val) _, .ref _] 0), (_, listOf [.ref _].toArray 0), (_, tupO [.str (Str.ofString "name") _, .str (Str.ofString "X") _] 0)] ++ rest')))) (bl', vs' ++ [r7], nb' + 1, p' + (wr + coreH es'.length), _, r6, c' + 1 + 1, t8) (by assumption) N9 ?s1 ?s2 ?off ⟨es' ++ [belE wr (coreE es'.length)], belT wr ty', tl6 ++ (tl7 ++ ([(_, tupO [.str (Str.ofString "ref") _, .str (fnm (fk (i' - 1)).val) _, .ref _] 0), (_, listOf [.ref _].toArray 0), (_, tupO [.str (Str.ofString "name") _, .str (Str.ofString "X") _] 0)] ++ rest')), rfl, ?a1, ?a2, hr3, ?a3, ?a4, Hea.step hR' (by omega) (by omega), ?a5, ?a6, ?a7, ?a8⟩ ?one ?same
      case s1 => k_extra "sub9"
      case s2 => k_extra "sub9"
      case one => rw [hch]; k_extra "one9"
      case off => exact off_of (offL_cons hoj (offL_cons hob (offL_app o6o (offL_app o7o (offL_app (by k_extra "offs8") (offL_sub hoff' (by k_extra "sub9")))))))
      case a1 => k_extra "nes8"
      case a2 => k_extra "nes8"
      case a3 => exact fun p hp => List.mem_append_right _ (List.mem_append_right _ (List.mem_append_right _ (hr4 p hp)))
      case a4 => rw [List.map_append]; exact (hd'.mono (by k_extra "sub9")).append (.cons (hd7.mono (by k_extra "sub9")) .nil)
      case a5 => simp; omega
      case a6 => dsimp only; omega
      case a7 => dsimp only; push_cast; omega
      case a8 => exact hd6.mono (by k_extra "sub9")
      case same => k_extra "same9"
  case done =>
    rintro ⟨bl', vs', nb', p', tp', tv', c', t'⟩ nx' u' h' tk' ⟨es', ty', rest', rfl, hr1, hr2, hr3, hr4, hd', hR', hlen', h0', h1', hty'⟩ F' N'
    dsimp only at hr2 hr3 hd' hR' h0' h1' F' N' hty'
    clear lF' lN'
    have hne' := hr3.symm
    have hth := hty'.handed
    have hpz := hR'.high
    have hl6 := hR'.len
    k_steps
    all_goals k_extra "and9"
    all_goals
      refine hret _ ((j, listOf (.int c' t' :: jvs).toArray n) :: (_, tupO [.ref bl', _] 0) :: (bl', listOf vs'.toArray nb') :: rest') _ _ (by assumption) (news_sub (by assumption) (List.forall_mem_cons.mpr ⟨by k_mem, List.forall_mem_cons.mpr ⟨List.mem_cons_self, by k_extra "sub9"⟩⟩)) ⟨c', t', n, _, bl', 0, nb', vs', _, es', p', ty', _, rfl, rfl, ?b1, ?b2, List.mem_cons_self, List.mem_cons_of_mem _ List.mem_cons_self, ?b3, hR', by omega, h0', by omega, ?b4⟩
      case b1 => k_extra "nes8"
      case b2 => exact fun p hp => List.mem_cons_of_mem _ (List.mem_cons_of_mem _ (hr4 p hp))
      case b3 => exact hd'.mono (by k_extra "sub9")
      case b4 => first | exact .inl ⟨by omega, hty'.mono (by k_extra "sub9")⟩ | exact .inr ⟨by omega, rfl⟩
theorem reg_words_Mks : True := by
  k_with_none
  w_top off
  k_with "for!" => fail "no word"
  k_with "memr9" => first
    | with_reducible assumption
    | with_reducible exact List.mem_cons_self
    | (with_reducible refine List.mem_cons_of_mem _ ?_; k_extra "memr9")
    | (with_reducible refine List.mem_append_right _ ?_; k_extra "memr9")
    | (with_reducible refine List.mem_append_left _ ?_; k_extra "memr9")
  k_with "mem9" => first
    | k_extra "memr9"
    | assumption
    | k_mem
    | (simp only [List.mem_cons, List.mem_append] at *; simp only [*, true_or, or_true])
    | grind
  k_with "sub8" => first
    | exact List.forall_mem_nil _
    | (refine' List.forall_mem_cons.mpr ⟨?m8, ?_⟩; (case m8 => k_mem); k_extra "sub8")
    | (refine' List.forall_mem_append.mpr ⟨?m8, ?_⟩; (case m8 => k_extra "sub8"); k_extra "sub8")
    | (intro p8 h8; k_mem)
  k_with "sub9" => first
    | k_extra "sub8"
    | (intro p9 h9; first
      | exact h9
      | (simp only [List.mem_cons, List.mem_append] at h9 ⊢; grind))
  k_with "dat9" => repeat' (first
    | exact DatIn.str _ _
    | exact DatIn.int _ _
    | exact DatAll.nil
    | assumption
    | (refine' DatAll.cons ?_ ?_)
    | (refine' DatIn.tuple ?m9 ?_; (case m9 => k_extra "mem9"))
    | (refine' DatIn.list ?m9 ?_; (case m9 => k_extra "mem9"))
    | (refine' DatIn.mono ?s9 ?h9; (case h9 => assumption); (case s9 => k_extra "sub9")))
  k_with "and9" => first
    | ((fail_if_success (fail_if_success (rename _ ∧ _ => hc9))); refine foldP (fun G9 hG9 => ?_); (repeat' (rename _ ∧ _ => hc9; refine and_go hc9 (fun hc8 hc7 => ?_); clear hc9)); refine hG9 ?_; clear hG9 G9)
    | skip
  k_with "fold9" => ((fail_if_success (fail_if_success k_fold)); refine (let q9 := _; let e9 := _; (?_ : wpAny _ _ _ q9 e9 _)))
  k_with "ne9" => first
    | assumption
    | (refine' ne_all ?h9 ?s9; (case h9 => assumption); (case s9 => k_extra "sub9"))
    | (refine' ne_allT ?h9 ?s9; (case h9 => assumption); (case s9 => k_extra "sub9"))
  k_with "off9" => (
    refine' off_of ?_
    repeat' (first
    | exact offL_nil
    | (refine' offL_sub ?h9 ?s9; (case h9 => assumption); (case s9 => k_extra "sub9"))
    | (refine' offL_cons ?o9 ?_; (case o9 => k_extra "ne9"))
    | (refine' offL_app ?_ ?_)))
  k_with "split9" => first | exact Split.base | (refine Split.cons ?_; k_extra "split9") | (refine Split.app ?_; k_extra "split9")
  k_with "same9" => (intro z9 h1 h2 h3; (simp only [List.mem_cons, List.not_mem_nil, or_false, forall_eq_or_imp, forall_eq] at h2); (simp only [List.contains_cons, List.contains_nil, Bool.or_false, Bool.or_eq_false_iff, beq_eq_false_iff_ne, ne_eq] at h3); (simp [h1, h2, h3, kstB]; done))
  k_with "sameW9" => (intro z9 h2 h3; (simp only [List.mem_cons, List.not_mem_nil, or_false, forall_eq_or_imp, forall_eq] at h2); (simp only [List.contains_cons, List.contains_nil, Bool.or_false, Bool.or_eq_false_iff, beq_eq_false_iff_ne, ne_eq] at h3); (simp [h2, h3, kstB]; done))
  k_with "one9" => (first | exact List.forall_mem_nil _ | (refine' List.forall_mem_cons.mpr ⟨?a9, ?_⟩; (case a9 => with_unfolding_all rfl); k_extra "one9"))
  k_with "offE9" => ((try dsimp only); (repeat (refine' List.forall_mem_cons.mpr ⟨?o9, ?_⟩; (case o9 => ((try dsimp only); k_ne)))); (repeat' (rename _ ∧ _ => hc9; rcases hc9 with ⟨hc8, hc7⟩)); first | exact List.forall_mem_nil _ | assumption | exact lt_ne (by assumption) | exact gt_ne (by assumption))
  k_with "rot9" => repeat' (first | exact Rot.here | refine' Rot.next ?_)
  k_with "nes8" => repeat' (first | assumption | exact List.forall_mem_nil _ | (refine' List.forall_mem_cons.mpr ⟨?m8, ?_⟩; (case m8 => dsimp only; first | exact Nat.ne_of_gt (by assumption) | exact Nat.ne_of_lt (by assumption) | assumption | exact Ne.symm (by assumption) | k_ne)) | exact lt_ne (by assumption) | refine' List.forall_mem_append.mpr ⟨?_, ?_⟩)
  k_with "offs8" => repeat' (first | assumption | exact offL_nil | exact offL_swap (by assumption) | (refine' offL_cons ?m8 ?_; (case m8 => dsimp only; first | exact lt_ne (by assumption) | (refine' lt_ne2 ?A8 ?B8; (case B8 => assumption); (case A8 => assumption)) | k_extra "ne9")) | refine' offL_app ?_ ?_)
  k_with "sel9" => repeat' (first | exact Sel.base | (refine' Sel.old ?m9 ?_; (case m9 => assumption)) | (refine' Sel.cut ?m9 ?_; (case m9 => repeat (first | exact List.mem_cons_self | refine List.mem_cons_of_mem _ ?_))) | refine' Sel.keep ?_ | refine' Sel.app ?_)
  k_with "mems9" => repeat' (first | exact List.forall_mem_nil _ | (refine' List.forall_mem_cons.mpr ⟨?m9, ?_⟩; (case m9 => k_extra "mem9")))
  k_with "isd9" => repeat' (first | (refine' dat_cons ?m9 ?_; (case m9 => first | (intro _; k_mem) | (intro q9; exact absurd q9 (dict_no (by assumption))) | (intro q9; exact absurd q9 (by simp [isDat, instObj, dictOf, itR])))) | (refine' dat_app ?m9 ?_; (case m9 => k_extra "sub9")) | (refine' dat_end ?m9; (case m9 => k_extra "sub9")))
  k_with "~execs cons" => k_extra "fold9"
  k_with "~call builtin:isinstance" => (k_here; (with_reducible show wpAny _ _ (call _ [Value.ref _, Value.type _]) _ _ _); kit_cont; k_dflt kit_objs)
  k_with "~eval Call" => k_extra "fold9"
  k_with "~eval Compare" => k_extra "fold9"
  k_with "~eval BinOp" => k_extra "fold9"
  k_with "~eval Tuple" => k_extra "fold9"
  k_with "~eval List" => k_extra "fold9"
  k_with "~eval Subscript" => k_extra "fold9"
  k_with "~eval Attribute" => k_extra "fold9"
  k_with "~eval IfExp" => k_extra "fold9"
  k_with "lt9" => first
    | with_reducible assumption
    | exact cj0 (by with_reducible assumption)
    | exact cj1 (by with_reducible assumption)
    | exact cj2 (by with_reducible assumption)
    | exact cj3 (by with_reducible assumption)
    | exact cj4 (by with_reducible assumption)
    | exact cj5 (by with_reducible assumption)
    | exact cj6 (by with_reducible assumption)
    | exact cj7 (by with_reducible assumption)
    | exact cz1 (by with_reducible assumption)
    | exact cz2 (by with_reducible assumption)
    | exact cz3 (by with_reducible assumption)
    | exact cz4 (by with_reducible assumption)
    | exact cz5 (by with_reducible assumption)
    | exact cz6 (by with_reducible assumption)
    | exact cz7 (by with_reducible assumption)
    | fail "lt9"
  k_with "om9" => first
    | with_reducible assumption
    | exact Nat.le_of_ble_eq_true rfl
    | exact Ne.symm (by with_reducible assumption)
    | ((with_reducible show (_ : Nat) ≠ _); first | exact Nat.ne_of_lt (by k_extra "lt9") | exact Nat.ne_of_gt (by k_extra "lt9"))
    | ((with_reducible show (_ : Nat) < _); first
      | exact rm1 (by with_reducible assumption) (by exact rfl)
      | exact rm0 (by with_reducible assumption)
      | exact rn1 (by with_reducible assumption) (by exact rfl)
      | exact rn3 (by with_reducible assumption) (by exact rfl)
      | exact rf2 (by with_reducible assumption) (by with_reducible assumption) (by exact rfl)
      | exact rm3 (by with_reducible assumption) (by exact rfl)
      | exact uf2 (by with_reducible assumption) (by with_reducible assumption) (by exact rfl)
      | exact um3 (by with_reducible assumption) (by exact rfl)
      | exact rf1 (by with_reducible assumption) (by with_reducible assumption) (by exact rfl)
      | exact rf3 (by with_reducible assumption) (by with_reducible assumption) (by exact rfl)
      | exact uf3 (by with_reducible assumption) (by with_reducible assumption) (by exact rfl)
      | k_extra "lt9")
    | fail "om9"
  k_with "~@k_all" => first | assumption | exact lt_ne (by assumption) | exact gt_ne (by assumption) | (refine' List.forall_mem_append.mpr ⟨?q9a, ?q9b⟩; (case q9a => k_all); (case q9b => k_all))
  k_with "~call builtin:len" => (k_here; (with_reducible show wpAny _ _ (call (Value.builtin "len") [Value.ref _]) _ _ _); (refine KM.len_K (by k_asm) (by k_dflt k_mem) rfl (by simp; omega) ?_))
  k_with "~@k_room" => ((try simp only [depth_mark, depth_under_make, depth_under_kw, depth_in1, depth_deeper, depth_caller]); (try dsimp only [ktrTop]); omega)
  k_with "~@k_units" => ((have hcL9 := cLine_is); (try simp only [units_in1, units_deeper, Around.mark_units, units_caller]); (try dsimp only [ktrTop]); omega)
  k_with "~exec While Compare cons nil" => k_extra "while!"
  k_with "~pyIter ref" => k_extra "iter!"
  k_with "~call ref" => k_extra "call!"
  k_with "~exec For Name Call cons nil" => (k_extra "for!"; k_here; (rename Fr _ _ _ _ => z9lF'); (with_unfolding_all refine' For_invVF z9lF' ?q9k1 ?q9k2 ?_; (case q9k1 => exact rfl); (case q9k2 => exact rfl); k_whole))
  k_with "~exec For Name Name cons nil" => (k_extra "for!"; k_here; (rename Fr _ _ _ _ => z9lF'); (with_unfolding_all refine' For_invVF z9lF' ?q9k1 ?q9k2 ?_; (case q9k1 => exact rfl); (case q9k2 => exact rfl); k_whole))
  k_with "~@k_mem" => first | assumption | exact List.mem_cons_self | (refine List.mem_cons_of_mem _ ?_; k_mem) | (refine List.mem_append_left _ ?_; k_mem) | (refine List.mem_append_right _ ?_; k_mem)
  k_with "~subscriptTail Name Slice ref ref" => (k_here; (with_reducible show wpAny _ _ (subscriptTail _ (PySem.Expr.Slice _ none none _) (Value.ref _) (Value.ref _)) _ _ _); k_dflt (refine' tup_from ?q9F ?q9N ?q9b ?q9o ?q9l ?q9e ?_ ?q9s ?q9t ?q9z; (case q9F => k_asm); (case q9N => k_asm); (case q9b => k_mem); (case q9o => decide); (case q9l => exact Nat.le_of_ble_eq_true rfl); (case q9e => kl_lit); (case q9s => with_unfolding_all rfl); (case q9t => (intro _; with_unfolding_all rfl)); (case q9z => (simp only [List.length_cons, List.length_nil, sizeLine_eq]; omega))); intro z9D' z9h' z9F' z9N' z9l1; (try k_lt z9l1); (try k_sweep))
  k_with "~exec For Name Subscript cons nil" => (k_here; (rename Fr _ _ _ _ => z9lF'); (with_unfolding_all refine' For_turns z9lF' ?_; k_whole))
  k_with "~exec For Name Name cons nil" => (k_extra "turns!"; k_here; (rename Fr _ _ _ _ => z9lF'); (with_unfolding_all refine' For_turns z9lF' ?_; k_whole))
  k_with "~pyIter ref" => (k_here; (with_reducible show wpAny _ _ (pyIter (Value.ref _)) (fun it s₂ => TurnsAt _ _ _ _ _ _ _ _ _ it s₂) _ _); (rename Fr _ _ _ _ => z9lF'); (rename News _ _ _ _ => z9lN'); k_dflt (refine' iter_tupTurns ?q9h z9lF' z9lN' ?q9m ?q9c ?q9d ?_; (case q9h => with_unfolding_all rfl); (case q9m => k_mem); (case q9c => exact rfl); (case q9d => exact rfl)); clear z9lF'; intro z9i' z9l1; (try k_lt z9l1))
  k_with "~pyIter ref" => (k_here; (with_reducible show wpAny _ _ (pyIter (Value.ref _)) (fun it s₂ => TurnsAt _ _ _ _ _ _ _ _ _ it s₂) _ _); (rename Fr _ _ _ _ => z9lF'); (rename News _ _ _ _ => z9lN'); k_dflt (refine' iter_listTurns ?q9h z9lF' z9lN' ?q9m ?q9c ?q9d ?_; (case q9h => with_unfolding_all rfl); (case q9m => k_mem); (case q9c => exact rfl); (case q9d => exact rfl)); clear z9lF'; intro z9i' z9l1; (try k_lt z9l1))
  k_with "~UnrEndW" => ((rename Fr _ _ _ _ => z9lF'); (rename News _ _ _ _ => z9lN'); (refine' unrEnd z9lF' z9lN' ?q9c9 ?q9o9 ⟨?q9k9, ?_⟩; (case q9c9 => repeat' (first | exact Cut.base | refine' Cut.cons ?_)); (case q9o9 => k_extra "offE9"); (case q9k9 => k_subL)); clear z9lF' z9lN')
  k_with "~@size_fits" => (simp only [List.size_toArray, List.length_append, List.length_cons, List.length_nil, sizeLine_eq]; omega)
  k_with "~call builtin:list.extend" => (k_here; (with_reducible show wpAny _ _ (call (Value.builtin _) [Value.ref _, Value.ref _]) _ _ _); k_dflt (refine' ext_list ?q9F ?q9N ?q9b ?q9ne ?q9U ?q9z ?_; (case q9F => k_asm); (case q9N => k_asm); (case q9b => k_mem); (case q9U => k_upd); (case q9ne => exact List.cons_ne_nil _ _); (case q9z => (simp only [List.length_append, List.length_cons, List.length_nil]; omega))); intro z9h' z9F' z9N'; (try k_sweep))
  k_with "~call builtin:list.pop" => (k_here; (with_reducible show wpAny _ _ (call (Value.builtin _) [Value.ref _]) _ _ _); k_dflt (refine' pop_list ?q9F ?q9N ?q9U ?q9z ?_; (case q9F => k_asm); (case q9N => k_asm); (case q9U => k_upd); (case q9z => omega)); intro z9h' z9F' z9N'; (try k_sweep))
  k_with "~exec Raise some none" => (k_here; refine raise_fault (by rfl) ?_)
  k_with "~call ref" => ((with_reducible show wpAny _ _ (call (Value.ref 44) [_]) _ _ _); k_here; k_dflt (refine' call_fault ?q9k1 ?q9k2 ?q9k3 ?_; (case q9k1 => k_asm); (case q9k2 => k_asm); (case q9k3 => k_asm); intro z9e' z9t' z9h' z9F' z9N' z9l1 z9l2 z9l3 z9n' z9k'; (try k_lt z9l1); (try k_lt2 z9l2); (try k_lt z9l3); (try k_sweep); k_enter))
  k_with "~getMethod type:Exception" => (k_here; (with_reducible refine' method_type ?q9F ?q9X exc_kind exc_stub ?q9e ?q9h ?_); k_dflt ((case q9F => k_asm); (case q9X => k_asm); (case q9e => k_is); (case q9h => k_handed)))
  k_with "~call builtin:Exception.__init__" => (k_here; k_dflt (refine' exc_init ?q9F ?q9X ?q9N ?q9U ?_; (case q9F => k_asm); (case q9X => k_asm); (case q9N => k_asm); (case q9U => k_updF); intro z9t' z9h' z9F' z9N'; (try dsimp only at z9N'); (try k_sweep)))
  k_with "~setAttr ref" => ((with_reducible show wpAny _ _ (setAttr (Value.ref _) (PySem.Str.ofString "text") _) _ _ _); k_here; k_dflt (refine' set_text ?q9T ?q9F ?q9X ?q9N ?q9U ?_; (case q9T => rfl); (case q9F => k_asm); (case q9X => k_asm); (case q9N => k_asm); (case q9U => k_updF); intro z9d' z9h' z9tk' z9F' z9N'; (try dsimp only at z9N'); (try k_sweep)))
  k_with "~exec Raise some none" => (k_here; k_dflt (refine raise_fault' (by rfl) ?_))
  k_with "~Raises44" => (k_here; k_dflt (refine' raises_of ?q9F ?q9X ?q9N ?q9m ?_; (case q9F => k_asm); (case q9X => k_asm); (case q9N => k_asm); (case q9m => k_mem)))
  k_with "~leaving ref" => (k_here; k_dflt (refine' leave_newB ?q9k1 ?q9k2 ?q9k3 ?q9k4 ?_; (case q9k1 => assumption); (case q9k2 => assumption); (case q9k3 => assumption); (case q9k4 => k_mem); k_whole; intro z9h' z9R' z9U'; (try dsimp only at z9R' z9U' ⊢)))
  k_with "~compareOp NotIn str ref" => (k_here; k_dflt (first
    | refine kdg_notin (knd := PySem.strKind _ _) (by k_asm) (by k_mem) (by assumption) (by assumption) (strKind_is _ _ _ _) true (by rw [‹valueAt _ _ = some _›]; rfl) ?_
    | refine kdg_notin (knd := PySem.strKind _ _) (by k_asm) (by k_mem) (by assumption) (by assumption) (strKind_is _ _ _ _) false (by rw [‹valueAt _ _ = none›]; rfl) ?_); (try dsimp only [Bool.not_true, Bool.not_false]))
  k_with "~compareOp In str ref" => (k_here; k_dflt (first
    | refine kda_in (knd := PySem.strKind _ _) (by k_asm) (by k_mem) (by assumption) (by assumption) (strKind_is _ _ _ _) true (by rw [‹valueAt _ _ = some _›]; rfl) ?_
    | refine kda_in (knd := PySem.strKind _ _) (by k_asm) (by k_mem) (by assumption) (by assumption) (strKind_is _ _ _ _) false (by rw [‹valueAt _ _ = none›]; rfl) ?_))
  k_with "~subscriptTail" => (k_here; k_dflt ((with_reducible show wpAny _ _ (subscriptTail _ _ (Value.ref _) (Value.str _ _)) _ _ _); refine kda_item (knd := PySem.strKind _ _) (by k_asm) (by k_mem) (by assumption) (strKind_is _ _ _ _) (by assumption) ?_))
  k_with "~subscriptTail" => (k_here; (with_reducible show wpAny _ _ (subscriptTail _ _ (Value.ref _) (Value.int 1 _)) _ _ _); k_dflt (refine item_kind (by k_asm) (by assumption) (by k_extra "sub9") ?_ (by with_unfolding_all rfl) (by intro _; with_unfolding_all rfl)); intro z9t')
  k_with "~@k_upd" => ((with_reducible show Upd _ _ _ (_ ++ _) _); refine' Upd.app ?q9a ?q9b; (case q9a => k_all); (case q9b => k_upd))
  k_with "~@k_updF" => ((with_reducible show UpdF _ _ (_ ++ _) _); refine' UpdF.app ?q9a ?q9b; (case q9a => k_all); (case q9b => k_updF))
  trivial
/-- thirteen tokens -/
noncomputable def mk13 (a b c d e f g h i j k l m : Tok) : Fin 13 → Tok := fun x => [a, b, c, d, e, f, g, h, i, j, k, l, m].getD x.val 0
theorem mk_symbol (w : World) (nm : Str) (tn : Tok) (news : List (Addr × Obj)) :
    Tel w 324 [.str nm tn] 6 news (fun r news' => ∃ a d dm t, r = .ref a ∧ news' = (a, instObj 324 d) :: (d, symD w nm "var" .none dm t 9) :: (dm, listOf [].toArray 0) :: news ∧ (∀ p ∈ news, p.1 < d) ∧ d < a ∧ a < dm) False := by
  have lp : Challenge.rw_pq0356_01.foot = Challenge.rw_pq0356_01.foot ∧ hd.heap_39 = hd.heap_39 := by k_fill; exact ⟨rfl, rfl⟩
  clear lp
  intro mean mg mb dp un gd cn cs a' ccd cl outer A₀ base h₀ L m s Q E B F X N T hk hdp hun hret hexc
  k_dflt (refine' call_cls ?k1 ?k2 ?k3 ?k4 ?k5 ?k6 ?_; (case k1 => k_asm); (case k2 => k_asm); (case k3 => k_asm); (case k4 => k_is); (case k5 => k_is); (case k6 => k_is))
  intro x' d' h' F' N' l1 l2
  (try k_lt l1); (try k_lt2 l2); (try k_sweep)
  k_dflt ktr_enter
  k_steps
  k_extra "and9"
  rename News h₀ L _ _ => N9
  with_unfolding_all refine hret _ ((x', instObj 324 d') :: (d', symD w nm "var" .none _ (mk13 _ _ _ _ _ _ _ _ _ _ _ _ _) 9) :: (_, listOf [].toArray 0) :: news) _ _ (by assumption) (news_sub N9 (List.forall_mem_cons.mpr ⟨.tail _ (.head _), List.forall_mem_cons.mpr ⟨.tail _ (.tail _ (.head _)), List.forall_mem_cons.mpr ⟨.head _, fun p hp => .tail _ (.tail _ (.tail _ hp))⟩⟩⟩)) ⟨x', d', _, mk13 _ _ _ _ _ _ _ _ _ _ _ _ _, rfl, rfl, by assumption, by assumption, by assumption⟩
theorem reg_words_Mkl : True := by
  k_with_none
  w_top off
  k_with "for!" => fail "no word"
  k_with "memr9" => first
    | with_reducible assumption
    | with_reducible exact List.mem_cons_self
    | (with_reducible refine List.mem_cons_of_mem _ ?_; k_extra "memr9")
    | (with_reducible refine List.mem_append_right _ ?_; k_extra "memr9")
    | (with_reducible refine List.mem_append_left _ ?_; k_extra "memr9")
  k_with "mem9" => first
    | k_extra "memr9"
    | assumption
    | k_mem
    | (simp only [List.mem_cons, List.mem_append] at *; simp only [*, true_or, or_true])
    | grind
  k_with "sub8" => first
    | exact List.forall_mem_nil _
    | (refine' List.forall_mem_cons.mpr ⟨?m8, ?_⟩; (case m8 => k_mem); k_extra "sub8")
    | (refine' List.forall_mem_append.mpr ⟨?m8, ?_⟩; (case m8 => k_extra "sub8"); k_extra "sub8")
    | (intro p8 h8; k_mem)
  k_with "sub9" => first
    | k_extra "sub8"
    | (intro p9 h9; first
      | exact h9
      | (simp only [List.mem_cons, List.mem_append] at h9 ⊢; grind))
  k_with "dat9" => repeat' (first
    | exact DatIn.str _ _
    | exact DatIn.int _ _
    | exact DatAll.nil
    | assumption
    | (refine' DatAll.cons ?_ ?_)
    | (refine' DatIn.tuple ?m9 ?_; (case m9 => k_extra "mem9"))
    | (refine' DatIn.list ?m9 ?_; (case m9 => k_extra "mem9"))
    | (refine' DatIn.mono ?s9 ?h9; (case h9 => assumption); (case s9 => k_extra "sub9")))
  k_with "and9" => first
    | ((fail_if_success (fail_if_success (rename _ ∧ _ => hc9))); refine foldP (fun G9 hG9 => ?_); (repeat' (rename _ ∧ _ => hc9; refine and_go hc9 (fun hc8 hc7 => ?_); clear hc9)); refine hG9 ?_; clear hG9 G9)
    | skip
  k_with "fold9" => ((fail_if_success (fail_if_success k_fold)); refine (let q9 := _; let e9 := _; (?_ : wpAny _ _ _ q9 e9 _)))
  k_with "ne9" => first
    | assumption
    | (refine' ne_all ?h9 ?s9; (case h9 => assumption); (case s9 => k_extra "sub9"))
    | (refine' ne_allT ?h9 ?s9; (case h9 => assumption); (case s9 => k_extra "sub9"))
  k_with "off9" => (
    refine' off_of ?_
    repeat' (first
    | exact offL_nil
    | (refine' offL_sub ?h9 ?s9; (case h9 => assumption); (case s9 => k_extra "sub9"))
    | (refine' offL_cons ?o9 ?_; (case o9 => k_extra "ne9"))
    | (refine' offL_app ?_ ?_)))
  k_with "split9" => first | exact Split.base | (refine Split.cons ?_; k_extra "split9") | (refine Split.app ?_; k_extra "split9")
  k_with "same9" => (intro z9 h1 h2 h3; (simp only [List.mem_cons, List.not_mem_nil, or_false, forall_eq_or_imp, forall_eq] at h2); (simp only [List.contains_cons, List.contains_nil, Bool.or_false, Bool.or_eq_false_iff, beq_eq_false_iff_ne, ne_eq] at h3); (simp [h1, h2, h3, kstB]; done))
  k_with "sameW9" => (intro z9 h2 h3; (simp only [List.mem_cons, List.not_mem_nil, or_false, forall_eq_or_imp, forall_eq] at h2); (simp only [List.contains_cons, List.contains_nil, Bool.or_false, Bool.or_eq_false_iff, beq_eq_false_iff_ne, ne_eq] at h3); (simp [h2, h3, kstB]; done))
  k_with "one9" => (first | exact List.forall_mem_nil _ | (refine' List.forall_mem_cons.mpr ⟨?a9, ?_⟩; (case a9 => with_unfolding_all rfl); k_extra "one9"))
  k_with "offE9" => ((try dsimp only); (repeat (refine' List.forall_mem_cons.mpr ⟨?o9, ?_⟩; (case o9 => ((try dsimp only); k_ne)))); (repeat' (rename _ ∧ _ => hc9; rcases hc9 with ⟨hc8, hc7⟩)); first | exact List.forall_mem_nil _ | assumption | exact lt_ne (by assumption) | exact gt_ne (by assumption))
  k_with "rot9" => repeat' (first | exact Rot.here | refine' Rot.next ?_)
  k_with "nes8" => repeat' (first | assumption | exact List.forall_mem_nil _ | (refine' List.forall_mem_cons.mpr ⟨?m8, ?_⟩; (case m8 => dsimp only; first | exact Nat.ne_of_gt (by assumption) | exact Nat.ne_of_lt (by assumption) | assumption | exact Ne.symm (by assumption) | k_ne)) | exact lt_ne (by assumption) | refine' List.forall_mem_append.mpr ⟨?_, ?_⟩)
  k_with "offs8" => repeat' (first | assumption | exact offL_nil | exact offL_swap (by assumption) | (refine' offL_cons ?m8 ?_; (case m8 => dsimp only; first | exact lt_ne (by assumption) | (refine' lt_ne2 ?A8 ?B8; (case B8 => assumption); (case A8 => assumption)) | k_extra "ne9")) | refine' offL_app ?_ ?_)
  k_with "sel9" => repeat' (first | exact Sel.base | (refine' Sel.old ?m9 ?_; (case m9 => assumption)) | (refine' Sel.cut ?m9 ?_; (case m9 => repeat (first | exact List.mem_cons_self | refine List.mem_cons_of_mem _ ?_))) | refine' Sel.keep ?_ | refine' Sel.app ?_)
  k_with "mems9" => repeat' (first | exact List.forall_mem_nil _ | (refine' List.forall_mem_cons.mpr ⟨?m9, ?_⟩; (case m9 => k_extra "mem9")))
  k_with "isd9" => repeat' (first | (refine' dat_cons ?m9 ?_; (case m9 => first | (intro _; k_mem) | (intro q9; exact absurd q9 (dict_no (by assumption))) | (intro q9; exact absurd q9 (by simp [isDat, instObj, dictOf, itR])))) | (refine' dat_app ?m9 ?_; (case m9 => k_extra "sub9")) | (refine' dat_end ?m9; (case m9 => k_extra "sub9")))
  k_with "~execs cons" => k_extra "fold9"
  k_with "~call builtin:isinstance" => (k_here; (with_reducible show wpAny _ _ (call _ [Value.ref _, Value.type _]) _ _ _); kit_cont; k_dflt kit_objs)
  k_with "~eval Call" => k_extra "fold9"
  k_with "~eval Compare" => k_extra "fold9"
  k_with "~eval BinOp" => k_extra "fold9"
  k_with "~eval Tuple" => k_extra "fold9"
  k_with "~eval List" => k_extra "fold9"
  k_with "~eval Subscript" => k_extra "fold9"
  k_with "~eval Attribute" => k_extra "fold9"
  k_with "~eval IfExp" => k_extra "fold9"
  k_with "lt9" => first
    | with_reducible assumption
    | exact cj0 (by with_reducible assumption)
    | exact cj1 (by with_reducible assumption)
    | exact cj2 (by with_reducible assumption)
    | exact cj3 (by with_reducible assumption)
    | exact cj4 (by with_reducible assumption)
    | exact cj5 (by with_reducible assumption)
    | exact cj6 (by with_reducible assumption)
    | exact cj7 (by with_reducible assumption)
    | exact cz1 (by with_reducible assumption)
    | exact cz2 (by with_reducible assumption)
    | exact cz3 (by with_reducible assumption)
    | exact cz4 (by with_reducible assumption)
    | exact cz5 (by with_reducible assumption)
    | exact cz6 (by with_reducible assumption)
    | exact cz7 (by with_reducible assumption)
    | fail "lt9"
  k_with "om9" => first
    | with_reducible assumption
    | exact Nat.le_of_ble_eq_true rfl
    | exact Ne.symm (by with_reducible assumption)
    | ((with_reducible show (_ : Nat) ≠ _); first | exact Nat.ne_of_lt (by k_extra "lt9") | exact Nat.ne_of_gt (by k_extra "lt9"))
    | ((with_reducible show (_ : Nat) < _); first
      | exact rm1 (by with_reducible assumption) (by exact rfl)
      | exact rm0 (by with_reducible assumption)
      | exact rn1 (by with_reducible assumption) (by exact rfl)
      | exact rn3 (by with_reducible assumption) (by exact rfl)
      | exact rf2 (by with_reducible assumption) (by with_reducible assumption) (by exact rfl)
      | exact rm3 (by with_reducible assumption) (by exact rfl)
      | exact uf2 (by with_reducible assumption) (by with_reducible assumption) (by exact rfl)
      | exact um3 (by with_reducible assumption) (by exact rfl)
      | exact rf1 (by with_reducible assumption) (by with_reducible assumption) (by exact rfl)
      | exact rf3 (by with_reducible assumption) (by with_reducible assumption) (by exact rfl)
      | exact uf3 (by with_reducible assumption) (by with_reducible assumption) (by exact rfl)
      | k_extra "lt9")
    | fail "om9"
  k_with "~@k_all" => first | assumption | exact lt_ne (by assumption) | exact gt_ne (by assumption) | (refine' List.forall_mem_append.mpr ⟨?q9a, ?q9b⟩; (case q9a => k_all); (case q9b => k_all))
  k_with "~call builtin:len" => (k_here; (with_reducible show wpAny _ _ (call (Value.builtin "len") [Value.ref _]) _ _ _); (refine KM.len_K (by k_asm) (by k_dflt k_mem) rfl (by simp; omega) ?_))
  k_with "~@k_room" => ((try simp only [depth_mark, depth_under_make, depth_under_kw, depth_in1, depth_deeper, depth_caller]); (try dsimp only [ktrTop]); omega)
  k_with "~@k_units" => ((have hcL9 := cLine_is); (try simp only [units_in1, units_deeper, Around.mark_units, units_caller]); (try dsimp only [ktrTop]); omega)
  k_with "~exec While Compare cons nil" => k_extra "while!"
  k_with "~pyIter ref" => k_extra "iter!"
  k_with "~call ref" => k_extra "call!"
  k_with "~exec For Name Call cons nil" => (k_extra "for!"; k_here; (rename Fr _ _ _ _ => z9lF'); (with_unfolding_all refine' For_invVF z9lF' ?q9k1 ?q9k2 ?_; (case q9k1 => exact rfl); (case q9k2 => exact rfl); k_whole))
  k_with "~exec For Name Name cons nil" => (k_extra "for!"; k_here; (rename Fr _ _ _ _ => z9lF'); (with_unfolding_all refine' For_invVF z9lF' ?q9k1 ?q9k2 ?_; (case q9k1 => exact rfl); (case q9k2 => exact rfl); k_whole))
  k_with "~@k_mem" => first | assumption | exact List.mem_cons_self | (refine List.mem_cons_of_mem _ ?_; k_mem) | (refine List.mem_append_left _ ?_; k_mem) | (refine List.mem_append_right _ ?_; k_mem)
  k_with "~subscriptTail Name Slice ref ref" => (k_here; (with_reducible show wpAny _ _ (subscriptTail _ (PySem.Expr.Slice _ none none _) (Value.ref _) (Value.ref _)) _ _ _); k_dflt (refine' tup_from ?q9F ?q9N ?q9b ?q9o ?q9l ?q9e ?_ ?q9s ?q9t ?q9z; (case q9F => k_asm); (case q9N => k_asm); (case q9b => k_mem); (case q9o => decide); (case q9l => exact Nat.le_of_ble_eq_true rfl); (case q9e => kl_lit); (case q9s => with_unfolding_all rfl); (case q9t => (intro _; with_unfolding_all rfl)); (case q9z => (simp only [List.length_cons, List.length_nil, sizeLine_eq]; omega))); intro z9D' z9h' z9F' z9N' z9l1; (try k_lt z9l1); (try k_sweep))
  k_with "~exec For Name Subscript cons nil" => (k_here; (rename Fr _ _ _ _ => z9lF'); (with_unfolding_all refine' For_turns z9lF' ?_; k_whole))
  k_with "~exec For Name Name cons nil" => (k_extra "turns!"; k_here; (rename Fr _ _ _ _ => z9lF'); (with_unfolding_all refine' For_turns z9lF' ?_; k_whole))
  k_with "~pyIter ref" => (k_here; (with_reducible show wpAny _ _ (pyIter (Value.ref _)) (fun it s₂ => TurnsAt _ _ _ _ _ _ _ _ _ it s₂) _ _); (rename Fr _ _ _ _ => z9lF'); (rename News _ _ _ _ => z9lN'); k_dflt (refine' iter_tupTurns ?q9h z9lF' z9lN' ?q9m ?q9c ?q9d ?_; (case q9h => with_unfolding_all rfl); (case q9m => k_mem); (case q9c => exact rfl); (case q9d => exact rfl)); clear z9lF'; intro z9i' z9l1; (try k_lt z9l1))
  k_with "~pyIter ref" => (k_here; (with_reducible show wpAny _ _ (pyIter (Value.ref _)) (fun it s₂ => TurnsAt _ _ _ _ _ _ _ _ _ it s₂) _ _); (rename Fr _ _ _ _ => z9lF'); (rename News _ _ _ _ => z9lN'); k_dflt (refine' iter_listTurns ?q9h z9lF' z9lN' ?q9m ?q9c ?q9d ?_; (case q9h => with_unfolding_all rfl); (case q9m => k_mem); (case q9c => exact rfl); (case q9d => exact rfl)); clear z9lF'; intro z9i' z9l1; (try k_lt z9l1))
  k_with "~UnrEndW" => ((rename Fr _ _ _ _ => z9lF'); (rename News _ _ _ _ => z9lN'); (refine' unrEnd z9lF' z9lN' ?q9c9 ?q9o9 ⟨?q9k9, ?_⟩; (case q9c9 => repeat' (first | exact Cut.base | refine' Cut.cons ?_)); (case q9o9 => k_extra "offE9"); (case q9k9 => k_subL)); clear z9lF' z9lN')
  k_with "~@size_fits" => (simp only [List.size_toArray, List.length_append, List.length_cons, List.length_nil, sizeLine_eq]; omega)
  k_with "~call builtin:list.extend" => (k_here; (with_reducible show wpAny _ _ (call (Value.builtin _) [Value.ref _, Value.ref _]) _ _ _); k_dflt (refine' ext_list ?q9F ?q9N ?q9b ?q9ne ?q9U ?q9z ?_; (case q9F => k_asm); (case q9N => k_asm); (case q9b => k_mem); (case q9U => k_upd); (case q9ne => exact List.cons_ne_nil _ _); (case q9z => (simp only [List.length_append, List.length_cons, List.length_nil]; omega))); intro z9h' z9F' z9N'; (try k_sweep))
  k_with "~call builtin:list.pop" => (k_here; (with_reducible show wpAny _ _ (call (Value.builtin _) [Value.ref _]) _ _ _); k_dflt (refine' pop_list ?q9F ?q9N ?q9U ?q9z ?_; (case q9F => k_asm); (case q9N => k_asm); (case q9U => k_upd); (case q9z => omega)); intro z9h' z9F' z9N'; (try k_sweep))
  k_with "~exec Raise some none" => (k_here; refine raise_fault (by rfl) ?_)
  k_with "~call ref" => ((with_reducible show wpAny _ _ (call (Value.ref 44) [_]) _ _ _); k_here; k_dflt (refine' call_fault ?q9k1 ?q9k2 ?q9k3 ?_; (case q9k1 => k_asm); (case q9k2 => k_asm); (case q9k3 => k_asm); intro z9e' z9t' z9h' z9F' z9N' z9l1 z9l2 z9l3 z9n' z9k'; (try k_lt z9l1); (try k_lt2 z9l2); (try k_lt z9l3); (try k_sweep); k_enter))
  k_with "~getMethod type:Exception" => (k_here; (with_reducible refine' method_type ?q9F ?q9X exc_kind exc_stub ?q9e ?q9h ?_); k_dflt ((case q9F => k_asm); (case q9X => k_asm); (case q9e => k_is); (case q9h => k_handed)))
  k_with "~call builtin:Exception.__init__" => (k_here; k_dflt (refine' exc_init ?q9F ?q9X ?q9N ?q9U ?_; (case q9F => k_asm); (case q9X => k_asm); (case q9N => k_asm); (case q9U => k_updF); intro z9t' z9h' z9F' z9N'; (try dsimp only at z9N'); (try k_sweep)))
  k_with "~setAttr ref" => ((with_reducible show wpAny _ _ (setAttr (Value.ref _) (PySem.Str.ofString "text") _) _ _ _); k_here; k_dflt (refine' set_text ?q9T ?q9F ?q9X ?q9N ?q9U ?_; (case q9T => rfl); (case q9F => k_asm); (case q9X => k_asm); (case q9N => k_asm); (case q9U => k_updF); intro z9d' z9h' z9tk' z9F' z9N'; (try dsimp only at z9N'); (try k_sweep)))
  k_with "~exec Raise some none" => (k_here; k_dflt (refine raise_fault' (by rfl) ?_))
  k_with "~Raises44" => (k_here; k_dflt (refine' raises_of ?q9F ?q9X ?q9N ?q9m ?_; (case q9F => k_asm); (case q9X => k_asm); (case q9N => k_asm); (case q9m => k_mem)))
  k_with "~leaving ref" => (k_here; k_dflt (refine' leave_newB ?q9k1 ?q9k2 ?q9k3 ?q9k4 ?_; (case q9k1 => assumption); (case q9k2 => assumption); (case q9k3 => assumption); (case q9k4 => k_mem); k_whole; intro z9h' z9R' z9U'; (try dsimp only at z9R' z9U' ⊢)))
  k_with "~compareOp NotIn str ref" => (k_here; k_dflt (first
    | refine kdg_notin (knd := PySem.strKind _ _) (by k_asm) (by k_mem) (by assumption) (by assumption) (strKind_is _ _ _ _) true (by rw [‹valueAt _ _ = some _›]; rfl) ?_
    | refine kdg_notin (knd := PySem.strKind _ _) (by k_asm) (by k_mem) (by assumption) (by assumption) (strKind_is _ _ _ _) false (by rw [‹valueAt _ _ = none›]; rfl) ?_); (try dsimp only [Bool.not_true, Bool.not_false]))
  k_with "~compareOp In str ref" => (k_here; k_dflt (first
    | refine kda_in (knd := PySem.strKind _ _) (by k_asm) (by k_mem) (by assumption) (by assumption) (strKind_is _ _ _ _) true (by rw [‹valueAt _ _ = some _›]; rfl) ?_
    | refine kda_in (knd := PySem.strKind _ _) (by k_asm) (by k_mem) (by assumption) (by assumption) (strKind_is _ _ _ _) false (by rw [‹valueAt _ _ = none›]; rfl) ?_))
  k_with "~subscriptTail" => (k_here; k_dflt ((with_reducible show wpAny _ _ (subscriptTail _ _ (Value.ref _) (Value.str _ _)) _ _ _); refine kda_item (knd := PySem.strKind _ _) (by k_asm) (by k_mem) (by assumption) (strKind_is _ _ _ _) (by assumption) ?_))
  k_with "~subscriptTail" => (k_here; (with_reducible show wpAny _ _ (subscriptTail _ _ (Value.ref _) (Value.int 1 _)) _ _ _); k_dflt (refine item_kind (by k_asm) (by assumption) (by k_extra "sub9") ?_ (by with_unfolding_all rfl) (by intro _; with_unfolding_all rfl)); intro z9t')
  k_with "~@k_upd" => ((with_reducible show Upd _ _ _ (_ ++ _) _); refine' Upd.app ?q9a ?q9b; (case q9a => k_all); (case q9b => k_upd))
  k_with "~@k_updF" => ((with_reducible show UpdF _ _ (_ ++ _) _); refine' UpdF.app ?q9a ?q9b; (case q9a => k_all); (case q9b => k_updF))
  trivial
/-- sixteen tokens -/
noncomputable def mk16 (a b c d e f g h i j k l m n o p : Tok) : Fin 16 → Tok := fun x => [a, b, c, d, e, f, g, h, i, j, k, l, m, n, o, p].getD x.val 0
theorem mk_limits (w : World) (news : List (Addr × Obj)) :
    Tel w 303 [] 6 news (fun r news' => ∃ a tl, r = .ref a ∧ news' = tl ++ news ∧ LimAt w tl a) False := by
  have lp : Challenge.rw_pq0356_01.foot = Challenge.rw_pq0356_01.foot ∧ hd.heap_39 = hd.heap_39 := by k_fill; exact ⟨rfl, rfl⟩
  clear lp
  intro mean mg mb dp un gd cn cs a' ccd cl outer A₀ base h₀ L m s Q E B F X N T hk hdp hun hret hexc
  k_dflt (refine' call_cls ?k1 ?k2 ?k3 ?k4 ?k5 ?k6 ?_; (case k1 => k_asm); (case k2 => k_asm); (case k3 => k_asm); (case k4 => k_is); (case k5 => k_is); (case k6 => k_is))
  intro x' d' h' F' N' l1 l2
  (try k_lt l1); (try k_lt2 l2); (try k_sweep)
  k_dflt (refine' code_def ?k1 ?k2 ?k3 ?k4 ?k5 ?kA ?kF ?kK ?k6 ?k7 ?k8 ?k9 ?kB ?_ ?c2 ?c3 ?c4 ?c5; (case kA => exact rfl); (case kF => exact rfl); (case kK => assumption); (case k1 => k_asm); (case k2 => k_asm); (case k3 => k_asm); (case k4 => k_asm); (case k5 => k_asm); (case k6 => k_is); (case k7 => k_is); (case k8 => ktr_room); (case k9 => exact binds_K (by k_in) rfl (by k_is) rfl rfl rfl); (case c5 => decide); (case kB => exact locs rfl); (case c2 => exact rfl); (case c3 => exact rfl); (case c4 => exact rfl); k_whole; intro g' L' h' FG' F' N' B' X' T'; (try dsimp only); (try k_extra "fold9"))
  k_steps
  rename News h₀ L _ _ => N9
  with_unfolding_all refine hret _ ([(x', instObj 303 d'), (d', limD w (mk16 _ _ _ _ _ _ _ _ _ _ _ _ _ _ _ _) _)] ++ news) _ _ (by assumption) N9 ⟨x', _, rfl, rfl, ⟨d', mk16 _ _ _ _ _ _ _ _ _ _ _ _ _ _ _ _, _, .head _, .tail _ (.head _)⟩⟩
theorem reg_words_Mkc : True := by
  k_with_none
  w_top off
  k_with "for!" => fail "no word"
  k_with "memr9" => first
    | with_reducible assumption
    | with_reducible exact List.mem_cons_self
    | (with_reducible refine List.mem_cons_of_mem _ ?_; k_extra "memr9")
    | (with_reducible refine List.mem_append_right _ ?_; k_extra "memr9")
    | (with_reducible refine List.mem_append_left _ ?_; k_extra "memr9")
  k_with "mem9" => first
    | k_extra "memr9"
    | assumption
    | k_mem
    | (simp only [List.mem_cons, List.mem_append] at *; simp only [*, true_or, or_true])
    | grind
  k_with "sub8" => first
    | exact List.forall_mem_nil _
    | (refine' List.forall_mem_cons.mpr ⟨?m8, ?_⟩; (case m8 => k_mem); k_extra "sub8")
    | (refine' List.forall_mem_append.mpr ⟨?m8, ?_⟩; (case m8 => k_extra "sub8"); k_extra "sub8")
    | (intro p8 h8; k_mem)
  k_with "sub9" => first
    | k_extra "sub8"
    | (intro p9 h9; first
      | exact h9
      | (simp only [List.mem_cons, List.mem_append] at h9 ⊢; grind))
  k_with "dat9" => repeat' (first
    | exact DatIn.str _ _
    | exact DatIn.int _ _
    | exact DatAll.nil
    | assumption
    | (refine' DatAll.cons ?_ ?_)
    | (refine' DatIn.tuple ?m9 ?_; (case m9 => k_extra "mem9"))
    | (refine' DatIn.list ?m9 ?_; (case m9 => k_extra "mem9"))
    | (refine' DatIn.mono ?s9 ?h9; (case h9 => assumption); (case s9 => k_extra "sub9")))
  k_with "and9" => first
    | ((fail_if_success (fail_if_success (rename _ ∧ _ => hc9))); refine foldP (fun G9 hG9 => ?_); (repeat' (rename _ ∧ _ => hc9; refine and_go hc9 (fun hc8 hc7 => ?_); clear hc9)); refine hG9 ?_; clear hG9 G9)
    | skip
  k_with "fold9" => ((fail_if_success (fail_if_success k_fold)); refine (let q9 := _; let e9 := _; (?_ : wpAny _ _ _ q9 e9 _)))
  k_with "ne9" => first
    | assumption
    | (refine' ne_all ?h9 ?s9; (case h9 => assumption); (case s9 => k_extra "sub9"))
    | (refine' ne_allT ?h9 ?s9; (case h9 => assumption); (case s9 => k_extra "sub9"))
  k_with "off9" => (
    refine' off_of ?_
    repeat' (first
    | exact offL_nil
    | (refine' offL_sub ?h9 ?s9; (case h9 => assumption); (case s9 => k_extra "sub9"))
    | (refine' offL_cons ?o9 ?_; (case o9 => k_extra "ne9"))
    | (refine' offL_app ?_ ?_)))
  k_with "split9" => first | exact Split.base | (refine Split.cons ?_; k_extra "split9") | (refine Split.app ?_; k_extra "split9")
  k_with "same9" => (intro z9 h1 h2 h3; (simp only [List.mem_cons, List.not_mem_nil, or_false, forall_eq_or_imp, forall_eq] at h2); (simp only [List.contains_cons, List.contains_nil, Bool.or_false, Bool.or_eq_false_iff, beq_eq_false_iff_ne, ne_eq] at h3); (simp [h1, h2, h3, kstB]; done))
  k_with "sameW9" => (intro z9 h2 h3; (simp only [List.mem_cons, List.not_mem_nil, or_false, forall_eq_or_imp, forall_eq] at h2); (simp only [List.contains_cons, List.contains_nil, Bool.or_false, Bool.or_eq_false_iff, beq_eq_false_iff_ne, ne_eq] at h3); (simp [h2, h3, kstB]; done))
  k_with "one9" => (first | exact List.forall_mem_nil _ | (refine' List.forall_mem_cons.mpr ⟨?a9, ?_⟩; (case a9 => with_unfolding_all rfl); k_extra "one9"))
  k_with "offE9" => ((try dsimp only); (repeat (refine' List.forall_mem_cons.mpr ⟨?o9, ?_⟩; (case o9 => ((try dsimp only); k_ne)))); (repeat' (rename _ ∧ _ => hc9; rcases hc9 with ⟨hc8, hc7⟩)); first | exact List.forall_mem_nil _ | assumption | exact lt_ne (by assumption) | exact gt_ne (by assumption))
  k_with "rot9" => repeat' (first | exact Rot.here | refine' Rot.next ?_)
  k_with "nes8" => repeat' (first | assumption | exact List.forall_mem_nil _ | (refine' List.forall_mem_cons.mpr ⟨?m8, ?_⟩; (case m8 => dsimp only; first | exact Nat.ne_of_gt (by assumption) | exact Nat.ne_of_lt (by assumption) | assumption | exact Ne.symm (by assumption) | k_ne)) | exact lt_ne (by assumption) | refine' List.forall_mem_append.mpr ⟨?_, ?_⟩)
  k_with "offs8" => repeat' (first | assumption | exact offL_nil | exact offL_swap (by assumption) | (refine' offL_cons ?m8 ?_; (case m8 => dsimp only; first | exact lt_ne (by assumption) | (refine' lt_ne2 ?A8 ?B8; (case B8 => assumption); (case A8 => assumption)) | k_extra "ne9")) | refine' offL_app ?_ ?_)
  k_with "sel9" => repeat' (first | exact Sel.base | (refine' Sel.old ?m9 ?_; (case m9 => assumption)) | (refine' Sel.cut ?m9 ?_; (case m9 => repeat (first | exact List.mem_cons_self | refine List.mem_cons_of_mem _ ?_))) | refine' Sel.keep ?_ | refine' Sel.app ?_)
  k_with "mems9" => repeat' (first | exact List.forall_mem_nil _ | (refine' List.forall_mem_cons.mpr ⟨?m9, ?_⟩; (case m9 => k_extra "mem9")))
  k_with "isd9" => repeat' (first | (refine' dat_cons ?m9 ?_; (case m9 => first | (intro _; k_mem) | (intro q9; exact absurd q9 (dict_no (by assumption))) | (intro q9; exact absurd q9 (by simp [isDat, instObj, dictOf, itR])))) | (refine' dat_app ?m9 ?_; (case m9 => k_extra "sub9")) | (refine' dat_end ?m9; (case m9 => k_extra "sub9")))
  k_with "~execs cons" => k_extra "fold9"
  k_with "~call builtin:isinstance" => (k_here; (with_reducible show wpAny _ _ (call _ [Value.ref _, Value.type _]) _ _ _); kit_cont; k_dflt kit_objs)
  k_with "~eval Call" => k_extra "fold9"
  k_with "~eval Compare" => k_extra "fold9"
  k_with "~eval BinOp" => k_extra "fold9"
  k_with "~eval Tuple" => k_extra "fold9"
  k_with "~eval List" => k_extra "fold9"
  k_with "~eval Subscript" => k_extra "fold9"
  k_with "~eval Attribute" => k_extra "fold9"
  k_with "~eval IfExp" => k_extra "fold9"
  k_with "lt9" => first
    | with_reducible assumption
    | exact cj0 (by with_reducible assumption)
    | exact cj1 (by with_reducible assumption)
    | exact cj2 (by with_reducible assumption)
    | exact cj3 (by with_reducible assumption)
    | exact cj4 (by with_reducible assumption)
    | exact cj5 (by with_reducible assumption)
    | exact cj6 (by with_reducible assumption)
    | exact cj7 (by with_reducible assumption)
    | exact cz1 (by with_reducible assumption)
    | exact cz2 (by with_reducible assumption)
    | exact cz3 (by with_reducible assumption)
    | exact cz4 (by with_reducible assumption)
    | exact cz5 (by with_reducible assumption)
    | exact cz6 (by with_reducible assumption)
    | exact cz7 (by with_reducible assumption)
    | fail "lt9"
  k_with "om9" => first
    | with_reducible assumption
    | exact Nat.le_of_ble_eq_true rfl
    | exact Ne.symm (by with_reducible assumption)
    | ((with_reducible show (_ : Nat) ≠ _); first | exact Nat.ne_of_lt (by k_extra "lt9") | exact Nat.ne_of_gt (by k_extra "lt9"))
    | ((with_reducible show (_ : Nat) < _); first
      | exact rm1 (by with_reducible assumption) (by exact rfl)
      | exact rm0 (by with_reducible assumption)
      | exact rn1 (by with_reducible assumption) (by exact rfl)
      | exact rn3 (by with_reducible assumption) (by exact rfl)
      | exact rf2 (by with_reducible assumption) (by with_reducible assumption) (by exact rfl)
      | exact rm3 (by with_reducible assumption) (by exact rfl)
      | exact uf2 (by with_reducible assumption) (by with_reducible assumption) (by exact rfl)
      | exact um3 (by with_reducible assumption) (by exact rfl)
      | exact rf1 (by with_reducible assumption) (by with_reducible assumption) (by exact rfl)
      | exact rf3 (by with_reducible assumption) (by with_reducible assumption) (by exact rfl)
      | exact uf3 (by with_reducible assumption) (by with_reducible assumption) (by exact rfl)
      | k_extra "lt9")
    | fail "om9"
  k_with "~@k_all" => first | assumption | exact lt_ne (by assumption) | exact gt_ne (by assumption) | (refine' List.forall_mem_append.mpr ⟨?q9a, ?q9b⟩; (case q9a => k_all); (case q9b => k_all))
  k_with "~call builtin:len" => (k_here; (with_reducible show wpAny _ _ (call (Value.builtin "len") [Value.ref _]) _ _ _); (refine KM.len_K (by k_asm) (by k_dflt k_mem) rfl (by simp; omega) ?_))
  k_with "~@k_room" => ((try simp only [depth_mark, depth_under_make, depth_under_kw, depth_in1, depth_deeper, depth_caller]); (try dsimp only [ktrTop]); omega)
  k_with "~@k_units" => ((have hcL9 := cLine_is); (try simp only [units_in1, units_deeper, Around.mark_units, units_caller]); (try dsimp only [ktrTop]); omega)
  k_with "~exec While Compare cons nil" => k_extra "while!"
  k_with "~pyIter ref" => k_extra "iter!"
  k_with "~call ref" => k_extra "call!"
  k_with "~exec For Name Call cons nil" => (k_extra "for!"; k_here; (rename Fr _ _ _ _ => z9lF'); (with_unfolding_all refine' For_invVF z9lF' ?q9k1 ?q9k2 ?_; (case q9k1 => exact rfl); (case q9k2 => exact rfl); k_whole))
  k_with "~exec For Name Name cons nil" => (k_extra "for!"; k_here; (rename Fr _ _ _ _ => z9lF'); (with_unfolding_all refine' For_invVF z9lF' ?q9k1 ?q9k2 ?_; (case q9k1 => exact rfl); (case q9k2 => exact rfl); k_whole))
  k_with "~@k_mem" => first | assumption | exact List.mem_cons_self | (refine List.mem_cons_of_mem _ ?_; k_mem) | (refine List.mem_append_left _ ?_; k_mem) | (refine List.mem_append_right _ ?_; k_mem)
  k_with "~subscriptTail Name Slice ref ref" => (k_here; (with_reducible show wpAny _ _ (subscriptTail _ (PySem.Expr.Slice _ none none _) (Value.ref _) (Value.ref _)) _ _ _); k_dflt (refine' tup_from ?q9F ?q9N ?q9b ?q9o ?q9l ?q9e ?_ ?q9s ?q9t ?q9z; (case q9F => k_asm); (case q9N => k_asm); (case q9b => k_mem); (case q9o => decide); (case q9l => exact Nat.le_of_ble_eq_true rfl); (case q9e => kl_lit); (case q9s => with_unfolding_all rfl); (case q9t => (intro _; with_unfolding_all rfl)); (case q9z => (simp only [List.length_cons, List.length_nil, sizeLine_eq]; omega))); intro z9D' z9h' z9F' z9N' z9l1; (try k_lt z9l1); (try k_sweep))
  k_with "~exec For Name Subscript cons nil" => (k_here; (rename Fr _ _ _ _ => z9lF'); (with_unfolding_all refine' For_turns z9lF' ?_; k_whole))
  k_with "~exec For Name Name cons nil" => (k_extra "turns!"; k_here; (rename Fr _ _ _ _ => z9lF'); (with_unfolding_all refine' For_turns z9lF' ?_; k_whole))
  k_with "~pyIter ref" => (k_here; (with_reducible show wpAny _ _ (pyIter (Value.ref _)) (fun it s₂ => TurnsAt _ _ _ _ _ _ _ _ _ it s₂) _ _); (rename Fr _ _ _ _ => z9lF'); (rename News _ _ _ _ => z9lN'); k_dflt (refine' iter_tupTurns ?q9h z9lF' z9lN' ?q9m ?q9c ?q9d ?_; (case q9h => with_unfolding_all rfl); (case q9m => k_mem); (case q9c => exact rfl); (case q9d => exact rfl)); clear z9lF'; intro z9i' z9l1; (try k_lt z9l1))
  k_with "~pyIter ref" => (k_here; (with_reducible show wpAny _ _ (pyIter (Value.ref _)) (fun it s₂ => TurnsAt _ _ _ _ _ _ _ _ _ it s₂) _ _); (rename Fr _ _ _ _ => z9lF'); (rename News _ _ _ _ => z9lN'); k_dflt (refine' iter_listTurns ?q9h z9lF' z9lN' ?q9m ?q9c ?q9d ?_; (case q9h => with_unfolding_all rfl); (case q9m => k_mem); (case q9c => exact rfl); (case q9d => exact rfl)); clear z9lF'; intro z9i' z9l1; (try k_lt z9l1))
  k_with "~UnrEndW" => ((rename Fr _ _ _ _ => z9lF'); (rename News _ _ _ _ => z9lN'); (refine' unrEnd z9lF' z9lN' ?q9c9 ?q9o9 ⟨?q9k9, ?_⟩; (case q9c9 => repeat' (first | exact Cut.base | refine' Cut.cons ?_)); (case q9o9 => k_extra "offE9"); (case q9k9 => k_subL)); clear z9lF' z9lN')
  k_with "~@size_fits" => (simp only [List.size_toArray, List.length_append, List.length_cons, List.length_nil, sizeLine_eq]; omega)
  k_with "~call builtin:list.extend" => (k_here; (with_reducible show wpAny _ _ (call (Value.builtin _) [Value.ref _, Value.ref _]) _ _ _); k_dflt (refine' ext_list ?q9F ?q9N ?q9b ?q9ne ?q9U ?q9z ?_; (case q9F => k_asm); (case q9N => k_asm); (case q9b => k_mem); (case q9U => k_upd); (case q9ne => exact List.cons_ne_nil _ _); (case q9z => (simp only [List.length_append, List.length_cons, List.length_nil]; omega))); intro z9h' z9F' z9N'; (try k_sweep))
  k_with "~call builtin:list.pop" => (k_here; (with_reducible show wpAny _ _ (call (Value.builtin _) [Value.ref _]) _ _ _); k_dflt (refine' pop_list ?q9F ?q9N ?q9U ?q9z ?_; (case q9F => k_asm); (case q9N => k_asm); (case q9U => k_upd); (case q9z => omega)); intro z9h' z9F' z9N'; (try k_sweep))
  k_with "~exec Raise some none" => (k_here; refine raise_fault (by rfl) ?_)
  k_with "~call ref" => ((with_reducible show wpAny _ _ (call (Value.ref 44) [_]) _ _ _); k_here; k_dflt (refine' call_fault ?q9k1 ?q9k2 ?q9k3 ?_; (case q9k1 => k_asm); (case q9k2 => k_asm); (case q9k3 => k_asm); intro z9e' z9t' z9h' z9F' z9N' z9l1 z9l2 z9l3 z9n' z9k'; (try k_lt z9l1); (try k_lt2 z9l2); (try k_lt z9l3); (try k_sweep); k_enter))
  k_with "~getMethod type:Exception" => (k_here; (with_reducible refine' method_type ?q9F ?q9X exc_kind exc_stub ?q9e ?q9h ?_); k_dflt ((case q9F => k_asm); (case q9X => k_asm); (case q9e => k_is); (case q9h => k_handed)))
  k_with "~call builtin:Exception.__init__" => (k_here; k_dflt (refine' exc_init ?q9F ?q9X ?q9N ?q9U ?_; (case q9F => k_asm); (case q9X => k_asm); (case q9N => k_asm); (case q9U => k_updF); intro z9t' z9h' z9F' z9N'; (try dsimp only at z9N'); (try k_sweep)))
  k_with "~setAttr ref" => ((with_reducible show wpAny _ _ (setAttr (Value.ref _) (PySem.Str.ofString "text") _) _ _ _); k_here; k_dflt (refine' set_text ?q9T ?q9F ?q9X ?q9N ?q9U ?_; (case q9T => rfl); (case q9F => k_asm); (case q9X => k_asm); (case q9N => k_asm); (case q9U => k_updF); intro z9d' z9h' z9tk' z9F' z9N'; (try dsimp only at z9N'); (try k_sweep)))
  k_with "~exec Raise some none" => (k_here; k_dflt (refine raise_fault' (by rfl) ?_))
  k_with "~Raises44" => (k_here; k_dflt (refine' raises_of ?q9F ?q9X ?q9N ?q9m ?_; (case q9F => k_asm); (case q9X => k_asm); (case q9N => k_asm); (case q9m => k_mem)))
  k_with "~leaving ref" => (k_here; k_dflt (refine' leave_newB ?q9k1 ?q9k2 ?q9k3 ?q9k4 ?_; (case q9k1 => assumption); (case q9k2 => assumption); (case q9k3 => assumption); (case q9k4 => k_mem); k_whole; intro z9h' z9R' z9U'; (try dsimp only at z9R' z9U' ⊢)))
  k_with "~compareOp NotIn str ref" => (k_here; k_dflt (first
    | refine kdg_notin (knd := PySem.strKind _ _) (by k_asm) (by k_mem) (by assumption) (by assumption) (strKind_is _ _ _ _) true (by rw [‹valueAt _ _ = some _›]; rfl) ?_
    | refine kdg_notin (knd := PySem.strKind _ _) (by k_asm) (by k_mem) (by assumption) (by assumption) (strKind_is _ _ _ _) false (by rw [‹valueAt _ _ = none›]; rfl) ?_); (try dsimp only [Bool.not_true, Bool.not_false]))
  k_with "~compareOp In str ref" => (k_here; k_dflt (first
    | refine kda_in (knd := PySem.strKind _ _) (by k_asm) (by k_mem) (by assumption) (by assumption) (strKind_is _ _ _ _) true (by rw [‹valueAt _ _ = some _›]; rfl) ?_
    | refine kda_in (knd := PySem.strKind _ _) (by k_asm) (by k_mem) (by assumption) (by assumption) (strKind_is _ _ _ _) false (by rw [‹valueAt _ _ = none›]; rfl) ?_))
  k_with "~subscriptTail" => (k_here; k_dflt ((with_reducible show wpAny _ _ (subscriptTail _ _ (Value.ref _) (Value.str _ _)) _ _ _); refine kda_item (knd := PySem.strKind _ _) (by k_asm) (by k_mem) (by assumption) (strKind_is _ _ _ _) (by assumption) ?_))
  k_with "~subscriptTail" => (k_here; (with_reducible show wpAny _ _ (subscriptTail _ _ (Value.ref _) (Value.int 1 _)) _ _ _); k_dflt (refine item_kind (by k_asm) (by assumption) (by k_extra "sub9") ?_ (by with_unfolding_all rfl) (by intro _; with_unfolding_all rfl)); intro z9t')
  k_with "~@k_upd" => ((with_reducible show Upd _ _ _ (_ ++ _) _); refine' Upd.app ?q9a ?q9b; (case q9a => k_all); (case q9b => k_upd))
  k_with "~@k_updF" => ((with_reducible show UpdF _ _ (_ ++ _) _); refine' UpdF.app ?q9a ?q9b; (case q9a => k_all); (case q9b => k_updF))
  trivial
theorem mk_scope (w : World) (sy lim : Addr) (news : List (Addr × Obj)) :
    Tel w 122 [.ref sy, .none, .ref lim] 6 news (fun r news' => ∃ sc gv op sp tc tl, r = .ref sc ∧ news' = cel sp 0 tc 0 :: (tl ++ news) ∧ (∀ p ∈ tl ++ news, p.1 ≠ sp) ∧ ScoAt w tl sc sy lim gv op sp 0 ∧ DicAt w tl gv [] ∧ (op, listOf [].toArray 0) ∈ tl) False := by
  have lp : Challenge.rw_pq0356_01.foot = Challenge.rw_pq0356_01.foot ∧ hd.heap_39 = hd.heap_39 := by k_fill; exact ⟨rfl, rfl⟩
  clear lp
  intro mean mg mb dp un gd cn cs a' ccd cl outer A₀ base h₀ L m s Q E B F X N T hk hdp hun hret hexc
  k_dflt (refine' call_cls ?k1 ?k2 ?k3 ?k4 ?k5 ?k6 ?_; (case k1 => k_asm); (case k2 => k_asm); (case k3 => k_asm); (case k4 => k_is); (case k5 => k_is); (case k6 => k_is))
  intro x' d' h' F' N' l1 l2
  (try k_lt l1); (try k_lt2 l2); (try k_sweep)
  k_dflt ktr_enter
  k_steps
  k_extra "and9"
  rename News h₀ L _ _ => N9
  with_unfolding_all refine hret _ (cel _ 0 _ 0 :: ([(_, listOf [].toArray 0), (_, _), (x', instObj 122 d'), (d', scoD w sy lim _ _ _ 0 _ _ _ _ _ _ _ _)] ++ news)) _ _ (by assumption) N9 ⟨x', _, _, _, _, _, rfl, rfl, ?b1, ⟨d', _, _, _, _, _, _, _, _, .tail _ (.tail _ (.head _)), .tail _ (.tail _ (.tail _ (.head _)))⟩, ⟨_, .tail _ (.head _), by assumption, by assumption⟩, .head _⟩
  case b1 => (dsimp only [List.cons_append, List.nil_append]; k_extra "nes8")
theorem reg_words_Pin : True := by
  k_with_none
  w_top off
  k_with "for!" => fail "no word"
  k_with "memr9" => first
    | with_reducible assumption
    | with_reducible exact List.mem_cons_self
    | (with_reducible refine List.mem_cons_of_mem _ ?_; k_extra "memr9")
    | (with_reducible refine List.mem_append_right _ ?_; k_extra "memr9")
    | (with_reducible refine List.mem_append_left _ ?_; k_extra "memr9")
  k_with "mem9" => first
    | k_extra "memr9"
    | assumption
    | k_mem
    | (simp only [List.mem_cons, List.mem_append] at *; simp only [*, true_or, or_true])
    | grind
  k_with "sub8" => first
    | exact List.forall_mem_nil _
    | (refine' List.forall_mem_cons.mpr ⟨?m8, ?_⟩; (case m8 => k_mem); k_extra "sub8")
    | (refine' List.forall_mem_append.mpr ⟨?m8, ?_⟩; (case m8 => k_extra "sub8"); k_extra "sub8")
    | (intro p8 h8; k_mem)
  k_with "sub9" => first
    | k_extra "sub8"
    | (intro p9 h9; first
      | exact h9
      | (simp only [List.mem_cons, List.mem_append] at h9 ⊢; grind))
  k_with "dat9" => repeat' (first
    | exact DatIn.str _ _
    | exact DatIn.int _ _
    | exact DatAll.nil
    | assumption
    | (refine' DatAll.cons ?_ ?_)
    | (refine' DatIn.tuple ?m9 ?_; (case m9 => k_extra "mem9"))
    | (refine' DatIn.list ?m9 ?_; (case m9 => k_extra "mem9"))
    | (refine' DatIn.mono ?s9 ?h9; (case h9 => assumption); (case s9 => k_extra "sub9")))
  k_with "and9" => first
    | ((fail_if_success (fail_if_success (rename _ ∧ _ => hc9))); refine foldP (fun G9 hG9 => ?_); (repeat' (rename _ ∧ _ => hc9; refine and_go hc9 (fun hc8 hc7 => ?_); clear hc9)); refine hG9 ?_; clear hG9 G9)
    | skip
  k_with "fold9" => ((fail_if_success (fail_if_success k_fold)); refine (let q9 := _; let e9 := _; (?_ : wpAny _ _ _ q9 e9 _)))
  k_with "ne9" => first
    | assumption
    | (refine' ne_all ?h9 ?s9; (case h9 => assumption); (case s9 => k_extra "sub9"))
    | (refine' ne_allT ?h9 ?s9; (case h9 => assumption); (case s9 => k_extra "sub9"))
  k_with "off9" => (
    refine' off_of ?_
    repeat' (first
    | exact offL_nil
    | (refine' offL_sub ?h9 ?s9; (case h9 => assumption); (case s9 => k_extra "sub9"))
    | (refine' offL_cons ?o9 ?_; (case o9 => k_extra "ne9"))
    | (refine' offL_app ?_ ?_)))
  k_with "split9" => first | exact Split.base | (refine Split.cons ?_; k_extra "split9") | (refine Split.app ?_; k_extra "split9")
  k_with "same9" => (intro z9 h1 h2 h3; (simp only [List.mem_cons, List.not_mem_nil, or_false, forall_eq_or_imp, forall_eq] at h2); (simp only [List.contains_cons, List.contains_nil, Bool.or_false, Bool.or_eq_false_iff, beq_eq_false_iff_ne, ne_eq] at h3); (simp [h1, h2, h3, kstB]; done))
  k_with "sameW9" => (intro z9 h2 h3; (simp only [List.mem_cons, List.not_mem_nil, or_false, forall_eq_or_imp, forall_eq] at h2); (simp only [List.contains_cons, List.contains_nil, Bool.or_false, Bool.or_eq_false_iff, beq_eq_false_iff_ne, ne_eq] at h3); (simp [h2, h3, kstB]; done))
  k_with "one9" => (first | exact List.forall_mem_nil _ | (refine' List.forall_mem_cons.mpr ⟨?a9, ?_⟩; (case a9 => with_unfolding_all rfl); k_extra "one9"))
  k_with "offE9" => ((try dsimp only); (repeat (refine' List.forall_mem_cons.mpr ⟨?o9, ?_⟩; (case o9 => ((try dsimp only); k_ne)))); (repeat' (rename _ ∧ _ => hc9; rcases hc9 with ⟨hc8, hc7⟩)); first | exact List.forall_mem_nil _ | assumption | exact lt_ne (by assumption) | exact gt_ne (by assumption))
  k_with "rot9" => repeat' (first | exact Rot.here | refine' Rot.next ?_)
  k_with "nes8" => repeat' (first | assumption | exact List.forall_mem_nil _ | (refine' List.forall_mem_cons.mpr ⟨?m8, ?_⟩; (case m8 => dsimp only; first | exact Nat.ne_of_gt (by assumption) | exact Nat.ne_of_lt (by assumption) | assumption | exact Ne.symm (by assumption) | k_ne)) | exact lt_ne (by assumption) | refine' List.forall_mem_append.mpr ⟨?_, ?_⟩)
  k_with "offs8" => repeat' (first | assumption | exact offL_nil | exact offL_swap (by assumption) | (refine' offL_cons ?m8 ?_; (case m8 => dsimp only; first | exact lt_ne (by assumption) | (refine' lt_ne2 ?A8 ?B8; (case B8 => assumption); (case A8 => assumption)) | k_extra "ne9")) | refine' offL_app ?_ ?_)
  k_with "sel9" => repeat' (first | exact Sel.base | (refine' Sel.old ?m9 ?_; (case m9 => assumption)) | (refine' Sel.cut ?m9 ?_; (case m9 => repeat (first | exact List.mem_cons_self | refine List.mem_cons_of_mem _ ?_))) | refine' Sel.keep ?_ | refine' Sel.app ?_)
  k_with "mems9" => repeat' (first | exact List.forall_mem_nil _ | (refine' List.forall_mem_cons.mpr ⟨?m9, ?_⟩; (case m9 => k_extra "mem9")))
  k_with "isd9" => repeat' (first | (refine' dat_cons ?m9 ?_; (case m9 => first | (intro _; k_mem) | (intro q9; exact absurd q9 (dict_no (by assumption))) | (intro q9; exact absurd q9 (by simp [isDat, instObj, dictOf, itR])))) | (refine' dat_app ?m9 ?_; (case m9 => k_extra "sub9")) | (refine' dat_end ?m9; (case m9 => k_extra "sub9")))
  k_with "~execs cons" => k_extra "fold9"
  k_with "~call builtin:isinstance" => (k_here; (with_reducible show wpAny _ _ (call _ [Value.ref _, Value.type _]) _ _ _); kit_cont; k_dflt kit_objs)
  k_with "~eval Call" => k_extra "fold9"
  k_with "~eval Compare" => k_extra "fold9"
  k_with "~eval BinOp" => k_extra "fold9"
  k_with "~eval Tuple" => k_extra "fold9"
  k_with "~eval List" => k_extra "fold9"
  k_with "~eval Subscript" => k_extra "fold9"
  k_with "~eval Attribute" => k_extra "fold9"
  k_with "~eval IfExp" => k_extra "fold9"
  k_with "lt9" => first
    | with_reducible assumption
    | exact cj0 (by with_reducible assumption)
    | exact cj1 (by with_reducible assumption)
    | exact cj2 (by with_reducible assumption)
    | exact cj3 (by with_reducible assumption)
    | exact cj4 (by with_reducible assumption)
    | exact cj5 (by with_reducible assumption)
    | exact cj6 (by with_reducible assumption)
    | exact cj7 (by with_reducible assumption)
    | exact cz1 (by with_reducible assumption)
    | exact cz2 (by with_reducible assumption)
    | exact cz3 (by with_reducible assumption)
    | exact cz4 (by with_reducible assumption)
    | exact cz5 (by with_reducible assumption)
    | exact cz6 (by with_reducible assumption)
    | exact cz7 (by with_reducible assumption)
    | fail "lt9"
  k_with "om9" => first
    | with_reducible assumption
    | exact Nat.le_of_ble_eq_true rfl
    | exact Ne.symm (by with_reducible assumption)
    | ((with_reducible show (_ : Nat) ≠ _); first | exact Nat.ne_of_lt (by k_extra "lt9") | exact Nat.ne_of_gt (by k_extra "lt9"))
    | ((with_reducible show (_ : Nat) < _); first
      | exact rm1 (by with_reducible assumption) (by exact rfl)
      | exact rm0 (by with_reducible assumption)
      | exact rn1 (by with_reducible assumption) (by exact rfl)
      | exact rn3 (by with_reducible assumption) (by exact rfl)
      | exact rf2 (by with_reducible assumption) (by with_reducible assumption) (by exact rfl)
      | exact rm3 (by with_reducible assumption) (by exact rfl)
      | exact uf2 (by with_reducible assumption) (by with_reducible assumption) (by exact rfl)
      | exact um3 (by with_reducible assumption) (by exact rfl)
      | exact rf1 (by with_reducible assumption) (by with_reducible assumption) (by exact rfl)
      | exact rf3 (by with_reducible assumption) (by with_reducible assumption) (by exact rfl)
      | exact uf3 (by with_reducible assumption) (by with_reducible assumption) (by exact rfl)
      | k_extra "lt9")
    | fail "om9"
  k_with "~@k_all" => first | assumption | exact lt_ne (by assumption) | exact gt_ne (by assumption) | (refine' List.forall_mem_append.mpr ⟨?q9a, ?q9b⟩; (case q9a => k_all); (case q9b => k_all))
  k_with "~call builtin:len" => (k_here; (with_reducible show wpAny _ _ (call (Value.builtin "len") [Value.ref _]) _ _ _); (refine KM.len_K (by k_asm) (by k_dflt k_mem) rfl (by simp; omega) ?_))
  k_with "~@k_room" => ((try simp only [depth_mark, depth_under_make, depth_under_kw, depth_in1, depth_deeper, depth_caller]); (try dsimp only [ktrTop]); omega)
  k_with "~@k_units" => ((have hcL9 := cLine_is); (try simp only [units_in1, units_deeper, Around.mark_units, units_caller]); (try dsimp only [ktrTop]); omega)
  k_with "~exec While Compare cons nil" => k_extra "while!"
  k_with "~pyIter ref" => k_extra "iter!"
  k_with "~call ref" => k_extra "call!"
  k_with "~exec For Name Call cons nil" => (k_extra "for!"; k_here; (rename Fr _ _ _ _ => z9lF'); (with_unfolding_all refine' For_invVF z9lF' ?q9k1 ?q9k2 ?_; (case q9k1 => exact rfl); (case q9k2 => exact rfl); k_whole))
  k_with "~exec For Name Name cons nil" => (k_extra "for!"; k_here; (rename Fr _ _ _ _ => z9lF'); (with_unfolding_all refine' For_invVF z9lF' ?q9k1 ?q9k2 ?_; (case q9k1 => exact rfl); (case q9k2 => exact rfl); k_whole))
  k_with "~@k_mem" => first | assumption | exact List.mem_cons_self | (refine List.mem_cons_of_mem _ ?_; k_mem) | (refine List.mem_append_left _ ?_; k_mem) | (refine List.mem_append_right _ ?_; k_mem)
  k_with "~subscriptTail Name Slice ref ref" => (k_here; (with_reducible show wpAny _ _ (subscriptTail _ (PySem.Expr.Slice _ none none _) (Value.ref _) (Value.ref _)) _ _ _); k_dflt (refine' tup_from ?q9F ?q9N ?q9b ?q9o ?q9l ?q9e ?_ ?q9s ?q9t ?q9z; (case q9F => k_asm); (case q9N => k_asm); (case q9b => k_mem); (case q9o => decide); (case q9l => exact Nat.le_of_ble_eq_true rfl); (case q9e => kl_lit); (case q9s => with_unfolding_all rfl); (case q9t => (intro _; with_unfolding_all rfl)); (case q9z => (simp only [List.length_cons, List.length_nil, sizeLine_eq]; omega))); intro z9D' z9h' z9F' z9N' z9l1; (try k_lt z9l1); (try k_sweep))
  k_with "~exec For Name Subscript cons nil" => (k_here; (rename Fr _ _ _ _ => z9lF'); (with_unfolding_all refine' For_turns z9lF' ?_; k_whole))
  k_with "~exec For Name Name cons nil" => (k_extra "turns!"; k_here; (rename Fr _ _ _ _ => z9lF'); (with_unfolding_all refine' For_turns z9lF' ?_; k_whole))
  k_with "~pyIter ref" => (k_here; (with_reducible show wpAny _ _ (pyIter (Value.ref _)) (fun it s₂ => TurnsAt _ _ _ _ _ _ _ _ _ it s₂) _ _); (rename Fr _ _ _ _ => z9lF'); (rename News _ _ _ _ => z9lN'); k_dflt (refine' iter_tupTurns ?q9h z9lF' z9lN' ?q9m ?q9c ?q9d ?_; (case q9h => with_unfolding_all rfl); (case q9m => k_mem); (case q9c => exact rfl); (case q9d => exact rfl)); clear z9lF'; intro z9i' z9l1; (try k_lt z9l1))
  k_with "~pyIter ref" => (k_here; (with_reducible show wpAny _ _ (pyIter (Value.ref _)) (fun it s₂ => TurnsAt _ _ _ _ _ _ _ _ _ it s₂) _ _); (rename Fr _ _ _ _ => z9lF'); (rename News _ _ _ _ => z9lN'); k_dflt (refine' iter_listTurns ?q9h z9lF' z9lN' ?q9m ?q9c ?q9d ?_; (case q9h => with_unfolding_all rfl); (case q9m => k_mem); (case q9c => exact rfl); (case q9d => exact rfl)); clear z9lF'; intro z9i' z9l1; (try k_lt z9l1))
  k_with "~UnrEndW" => ((rename Fr _ _ _ _ => z9lF'); (rename News _ _ _ _ => z9lN'); (refine' unrEnd z9lF' z9lN' ?q9c9 ?q9o9 ⟨?q9k9, ?_⟩; (case q9c9 => repeat' (first | exact Cut.base | refine' Cut.cons ?_)); (case q9o9 => k_extra "offE9"); (case q9k9 => k_subL)); clear z9lF' z9lN')
  k_with "~@size_fits" => (simp only [List.size_toArray, List.length_append, List.length_cons, List.length_nil, sizeLine_eq]; omega)
  k_with "~call builtin:list.extend" => (k_here; (with_reducible show wpAny _ _ (call (Value.builtin _) [Value.ref _, Value.ref _]) _ _ _); k_dflt (refine' ext_list ?q9F ?q9N ?q9b ?q9ne ?q9U ?q9z ?_; (case q9F => k_asm); (case q9N => k_asm); (case q9b => k_mem); (case q9U => k_upd); (case q9ne => exact List.cons_ne_nil _ _); (case q9z => (simp only [List.length_append, List.length_cons, List.length_nil]; omega))); intro z9h' z9F' z9N'; (try k_sweep))
  k_with "~call builtin:list.pop" => (k_here; (with_reducible show wpAny _ _ (call (Value.builtin _) [Value.ref _]) _ _ _); k_dflt (refine' pop_list ?q9F ?q9N ?q9U ?q9z ?_; (case q9F => k_asm); (case q9N => k_asm); (case q9U => k_upd); (case q9z => omega)); intro z9h' z9F' z9N'; (try k_sweep))
  k_with "~exec Raise some none" => (k_here; refine raise_fault (by rfl) ?_)
  k_with "~call ref" => ((with_reducible show wpAny _ _ (call (Value.ref 44) [_]) _ _ _); k_here; k_dflt (refine' call_fault ?q9k1 ?q9k2 ?q9k3 ?_; (case q9k1 => k_asm); (case q9k2 => k_asm); (case q9k3 => k_asm); intro z9e' z9t' z9h' z9F' z9N' z9l1 z9l2 z9l3 z9n' z9k'; (try k_lt z9l1); (try k_lt2 z9l2); (try k_lt z9l3); (try k_sweep); k_enter))
  k_with "~getMethod type:Exception" => (k_here; (with_reducible refine' method_type ?q9F ?q9X exc_kind exc_stub ?q9e ?q9h ?_); k_dflt ((case q9F => k_asm); (case q9X => k_asm); (case q9e => k_is); (case q9h => k_handed)))
  k_with "~call builtin:Exception.__init__" => (k_here; k_dflt (refine' exc_init ?q9F ?q9X ?q9N ?q9U ?_; (case q9F => k_asm); (case q9X => k_asm); (case q9N => k_asm); (case q9U => k_updF); intro z9t' z9h' z9F' z9N'; (try dsimp only at z9N'); (try k_sweep)))
  k_with "~setAttr ref" => ((with_reducible show wpAny _ _ (setAttr (Value.ref _) (PySem.Str.ofString "text") _) _ _ _); k_here; k_dflt (refine' set_text ?q9T ?q9F ?q9X ?q9N ?q9U ?_; (case q9T => rfl); (case q9F => k_asm); (case q9X => k_asm); (case q9N => k_asm); (case q9U => k_updF); intro z9d' z9h' z9tk' z9F' z9N'; (try dsimp only at z9N'); (try k_sweep)))
  k_with "~exec Raise some none" => (k_here; k_dflt (refine raise_fault' (by rfl) ?_))
  k_with "~Raises44" => (k_here; k_dflt (refine' raises_of ?q9F ?q9X ?q9N ?q9m ?_; (case q9F => k_asm); (case q9X => k_asm); (case q9N => k_asm); (case q9m => k_mem)))
  k_with "~leaving ref" => (k_here; k_dflt (refine' leave_newB ?q9k1 ?q9k2 ?q9k3 ?q9k4 ?_; (case q9k1 => assumption); (case q9k2 => assumption); (case q9k3 => assumption); (case q9k4 => k_mem); k_whole; intro z9h' z9R' z9U'; (try dsimp only at z9R' z9U' ⊢)))
  k_with "~compareOp NotIn str ref" => (k_here; k_dflt (first
    | refine kdg_notin (knd := PySem.strKind _ _) (by k_asm) (by k_mem) (by assumption) (by assumption) (strKind_is _ _ _ _) true (by rw [‹valueAt _ _ = some _›]; rfl) ?_
    | refine kdg_notin (knd := PySem.strKind _ _) (by k_asm) (by k_mem) (by assumption) (by assumption) (strKind_is _ _ _ _) false (by rw [‹valueAt _ _ = none›]; rfl) ?_); (try dsimp only [Bool.not_true, Bool.not_false]))
  k_with "~compareOp In str ref" => (k_here; k_dflt (first
    | refine kda_in (knd := PySem.strKind _ _) (by k_asm) (by k_mem) (by assumption) (by assumption) (strKind_is _ _ _ _) true (by rw [‹valueAt _ _ = some _›]; rfl) ?_
    | refine kda_in (knd := PySem.strKind _ _) (by k_asm) (by k_mem) (by assumption) (by assumption) (strKind_is _ _ _ _) false (by rw [‹valueAt _ _ = none›]; rfl) ?_))
  k_with "~subscriptTail" => (k_here; k_dflt ((with_reducible show wpAny _ _ (subscriptTail _ _ (Value.ref _) (Value.str _ _)) _ _ _); refine kda_item (knd := PySem.strKind _ _) (by k_asm) (by k_mem) (by assumption) (strKind_is _ _ _ _) (by assumption) ?_))
  k_with "~subscriptTail" => (k_here; (with_reducible show wpAny _ _ (subscriptTail _ _ (Value.ref _) (Value.int 1 _)) _ _ _); k_dflt (refine item_kind (by k_asm) (by assumption) (by k_extra "sub9") ?_ (by with_unfolding_all rfl) (by intro _; with_unfolding_all rfl)); intro z9t')
  k_with "~@k_upd" => ((with_reducible show Upd _ _ _ (_ ++ _) _); refine' Upd.app ?q9a ?q9b; (case q9a => k_all); (case q9b => k_upd))
  k_with "~@k_updF" => ((with_reducible show UpdF _ _ (_ ++ _) _); refine' UpdF.app ?q9a ?q9b; (case q9a => k_all); (case q9b => k_updF))
  k_with "~call builtin:len" => (k_here; (with_reducible show wpAny _ _ (call (Value.builtin "len") [Value.ref _]) _ _ _); k_dflt (refine len_one (by k_asm) (by k_mem) ?_))
  k_with "~compareOp In str ref" => (k_here; k_dflt (refine in_strs (by k_asm) (by k_mem) (by assumption) (by assumption) ?_))
  k_with "~binaryOp Add ref ref" => (k_here; (with_reducible show wpAny _ _ (binaryOp _ (Value.ref _) (Value.ref _)) _ _ _); k_dflt (refine' cat_lists ?q9F ?q9N ?q9a ?q9b ?q9z ?_; (case q9F => k_asm); (case q9N => k_asm); (case q9a => k_mem); (case q9b => k_mem); (case q9z => (simp only [List.length_cons, List.length_nil]; omega))); intro z9D' z9h' z9F' z9N' z9l1; (try k_lt z9l1); (try k_sweep))
  k_with "~subscriptTail Name Name ref int" => (k_here; k_dflt (refine item_one (by k_asm) (by k_mem) ?_ (by with_unfolding_all rfl) (by intro _; with_unfolding_all rfl)))
  k_with "~setItem ref str" => (k_here; k_dflt (refine' kda_set (knd := PySem.strKind _ _) ?q9F ?q9N ?q9U ?q9d (strKind_is _ _ _ _) ?q9z ?_; (case q9F => k_asm); (case q9N => k_asm); (case q9U => k_updF); (case q9d => assumption); (case q9z => rw [sizeLine_eq]; exact Nat.le_of_ble_eq_true (by with_unfolding_all rfl))); intro z9h' z9o' z9F' z9N' z9hd'; (try dsimp only at z9N'))
  trivial
noncomputable def subS (S S' : List (Addr × Obj)) : Prop := ∀ p ∈ S, p ∈ S'
noncomputable def offA (S : List (Addr × Obj)) (a : Addr) : Prop := ∀ p ∈ S, p.1 ≠ a
theorem strs_dat {S : List (Addr × Obj)} {vs : List Value} {ys : List Str} (h : StrsAre vs ys) : DatAll S vs (ys.map Dat.str) := by
  induction h with
  | nil => exact .nil
  | cons y t _ ih => exact .cons (.str _ _) ih
theorem in_strs {prog : Program} {w : World} {A : Around} {E : Value → Shared → Prop} {s : Shared} {h₀ : Heap} {L l : Addr} {news : List (Addr × Obj)} {vs : List Value} {ys : List Str} {n : Nat} {k : Str} {t : Tok} {Q : Value → Shared → Prop}
    (N : News h₀ L s.heap news) (hm : (l, listOf vs.toArray n) ∈ news) (hi : StrsAre vs ys) (hn : ys.any (· == k) = false) (h : Q (.bool false) s) : wpAny (model prog w) A (compareOp .In (.str k t) (.ref l)) Q E s :=
  in_list_strs (News.isList N hm) hi (by rw [hn]; exact h)
theorem cat_lists {prog : Program} {w : World} {A : Around} {E : Value → Shared → Prop} {s : Shared} {h₀ : Heap} {L a b : Addr} {m : Str → Option Value} {news : List (Addr × Obj)} {vs ws : List Value} {n n2 : Nat} {Q : Value → Shared → Prop}
    (F : Fr h₀ L s.heap m) (N : News h₀ L s.heap news) (ha : (a, listOf vs.toArray n) ∈ news) (hb : (b, listOf ws.toArray n2) ∈ news) (hz : vs.length + ws.length ≤ 16000000)
    (h : ∀ D h', Fr h₀ L h' m → News h₀ L h' ((D, listOf (vs ++ ws).toArray 0) :: news) → (∀ p ∈ news, p.1 < D) → Q (.ref D) { s with heap := h' }) : wpAny (model prog w) A (binaryOp .Add (.ref a) (.ref b)) Q E s :=
  kmk_add_lit F N (News.isList N ha) (News.isList N hb) rfl (by simpa using h) (by rw [sizeLine_eq]; simp; omega)
theorem len_one {prog : Program} {w : World} {A : Around} {E : Value → Shared → Prop} {s : Shared} {h₀ : Heap} {L D : Addr} {news : List (Addr × Obj)} {v : Value} {c : Nat} {Q : Value → Shared → Prop}
    (N : News h₀ L s.heap news) (hm : (D, listOf [v].toArray c) ∈ news) (h : Q (.int 1 (s.toks + 1)) { s with toks := s.toks + 1 + 1 }) : wpAny (model prog w) A (call (.builtin "len") [.ref D]) Q E s := KM.len_K (n := 1) N hm rfl (by decide) h
noncomputable def cnt (opn : List Str) (c : Nat) : Nat := if opn = [] then 0 else c
noncomputable def overB (opn : List Str) (hi : Nat) (b : Ex) (c : Nat) : Bool := decide (cnt opn c + 1 > 200 ∨ hi + b.hgt > 100)
theorem strs_len {vs : List Value} {ys : List Str} (h : StrsAre vs ys) : vs.length = ys.length := by
  induction h with
  | nil => rfl
  | cons _ _ _ ih => simp [ih]
noncomputable def putRes (opn : List Str) (hi : Nat) (b : Ex) (resA : Option (Ty × Nat)) (resB : Ty → Nat → Option (Ty × Nat)) : Option (Ty × Nat) :=
  bindT resA fun tA c1 => if overB opn hi b c1 = true then none else resB tA (cnt opn c1 + 1)
/-- what an expression's resolving asks of the ledger -/
noncomputable def ScoOK (w : World) (S : List (Addr × Obj)) (kvs : List (Str × Value)) (sc sy lim sp : Addr) (g : Option Ty) (opn : List Str) (hi : Nat) : Prop :=
  ∃ gv op kg vs nop, ScoAt w S sc sy lim gv op sp hi ∧ DicAt w S gv kg ∧ (match g with | some t => ∃ v, kg = [(nmS false, v)] ∧ DatIn S v t.dat | none => kg = []) ∧ (op, listOf vs.toArray nop) ∈ S ∧ StrsAre vs opn
theorem item_one {prog : Program} {w : World} {A : Around} {E : Value → Shared → Prop} {s : Shared} {h₀ : Heap} {L D : Addr} {news : List (Addr × Obj)} {v : Value} {c : Nat} {u : Tok} {value slice : PySem.Expr} {Q : Value → Shared → Prop}
    (N : News h₀ L s.heap news) (hm : (D, listOf [v].toArray c) ∈ news) (h : Q v s) (hs : subscripted slice false (.ref D) (.int 0 u) = operate [.ref D, .int 0 u] (getItem (.ref D) (.int 0 u))) (hg : ∀ r, letTemporaryGo value (.ref D) r = pure ()) :
    wpAny (model prog w) A (subscriptTail value slice (.ref D) (.int 0 u)) Q E s := item_listL (News.isList N hm) (by decide) (by decide) rfl h hs hg
theorem strs_app {vs : List Value} {ys : List Str} {x : Str} {t : Tok} (h : StrsAre vs ys) : StrsAre (vs ++ [.str x t]) (ys ++ [x]) := by
  induction h with
  | nil => exact .cons _ _ .nil
  | cons y t _ ih => exact .cons _ _ ih
theorem putin (w : World) (sc sy lim gv op sp a al ax tp dl : Addr) (hi c nop nt nl nal : Nat) (S : List (Addr × Obj)) (kg kvs : List (Str × Value)) (nm : Str) (vs : List Value) (opn : List Str) (tc tx : Tok) (nn : Nat) (va vb valx : Value) (b : Ex) (fr : Nat) (hfr : 12 ≤ fr)
    (resA : Option (Ty × Nat)) (resB : Ty → Nat → Option (Ty × Nat))
    (hsc : ScoAt w S sc sy lim gv op sp hi) (hlim : LimAt w S lim) (hg : DicAt w S gv kg) (hop : (op, listOf vs.toArray nop) ∈ S) (hst : StrsAre vs opn) (hno : opn.any (· == nm) = false) (hopn : opn.length ≤ 100) (hok : ∀ x ∈ opn, PyData.strOk x = true)
    (hsy : DicAt w S sy kvs) (hx : valueAt kvs (nmS false) = some (.ref ax)) (hsx : SymAt w S ax (nmS false) "var" valx)
    (hs : SymAt w S a nm "stfunc" (.ref tp)) (htp : (tp, tupO [.ref dl, vb] nt) ∈ S) (hdl : (dl, listOf [.str (nmS false) tx].toArray nl) ∈ S) (hb : DatIn S vb b.dat) (hz : b.size ≤ 10000)
    (hal : (al, listOf [va].toArray nal) ∈ S) (hhi : hi ≤ 1000) (hSp : ∀ p ∈ S, p.1 ≠ sp)
    (hcA : ∀ t c, resA = some (t, c) → c ≤ 200)
    (CA : ∀ S1, (∀ p ∈ S, p ∈ S1) → (∀ p ∈ S1, p.1 ≠ sp) → Tel w 285 [va, .ref sc] fr (cel sp c tc nn :: S1) (EvP S1 sp resA) (resA = none))
    (CB : ∀ S2 inn tA c1 tc nn, resA = some (tA, c1) → overB opn hi b c1 = false → (∀ p ∈ S, p ∈ S2) → (∀ p ∈ S2, p.1 ≠ sp) → ScoOK w S2 kvs inn sy lim sp (some tA) (opn ++ [nm]) (hi + b.hgt) →
      Tel w 285 [vb, .ref inn] fr (cel sp (cnt opn c1 + 1) tc nn :: S2) (EvP S2 sp (resB tA (cnt opn c1 + 1))) (resB tA (cnt opn c1 + 1) = none))
    (hgr : ∀ t c, putRes opn hi b resA resB = some (t, c) → t.lev ≤ 100 ∧ t.nodes ≤ 10000 ∧ t.plus) :
    Tel w 215 [.ref a, .ref al, .ref sc] (fr + 3) (cel sp c tc nn :: S) (EvP S sp (putRes opn hi b resA resB)) (putRes opn hi b resA resB = none) := by
  have lp : Challenge.rw_pq0356_01.foot = Challenge.rw_pq0356_01.foot ∧ hd.heap_39 = hd.heap_39 := by k_fill; exact ⟨rfl, rfl⟩
  clear lp
  intro mean mg mb dp un gd cn cs a' ccd cl outer A₀ base h₀ L m s Q E B F X N T hk hdp hun hret hexc
  have hsy' := hsy
  have hsc' := hsc
  have hs' := hs
  have hlen : vs.length ≤ 100 := by rw [strs_len hst]; exact hopn
  obtain ⟨d, u1, u2, u3, u4, u5, u6, u7, uh, m1, m2⟩ := hsc'
  obtain ⟨ds, dm, t, m5, m6⟩ := hs'
  have hsx' := hsx
  obtain ⟨dsx, dmx, ttx, m7, m8⟩ := hsx'
  have N2 : News h₀ L s.heap ((ax, instObj 324 dsx) :: (dsx, symD w (nmS false) "var" valx dmx ttx 9) :: (a, instObj 324 ds) :: (ds, symD w nm "stfunc" (.ref tp) dm t 9) :: (tp, tupO [.ref dl, vb] nt) :: (dl, listOf [.str (nmS false) tx].toArray nl) :: (al, listOf [va].toArray nal) :: (op, listOf vs.toArray nop) :: (sc, instObj 122 d) :: (d, scoD w sy lim gv op sp hi u1 u2 u3 u4 u5 u6 u7 uh) :: cel sp c tc nn :: S) := news_sub N (by k_extra "sub9")
  clear N
  k_with "call!" => ((first | (with_reducible show wpAny _ _ (call (Value.ref 161) _) _ _ _) | (with_reducible show wpAny _ _ (call (Value.ref 133) _) _ _ _) | (with_reducible show wpAny _ _ (call (Value.ref 285) _) _ _ _) | (with_reducible show wpAny _ _ (call (Value.ref 208) _) _ _ _) | (with_reducible show wpAny _ _ (call (Value.ref 194) _) _ _ _)); refine Stop.out ?_)
  refine wpAny_call ?_
  k_dflt ktr_enter
  k_steps
  refine Stop.on ?_
  k_dflt (refine tel_go (by k_asm) (by k_asm) (by k_asm) (by k_asm) (by rfl) (by k_asm) (symbol_of w sc sy lim gv op sp hi _ kvs (nmS false) _ ax (hsc.mono (by k_extra "sub9")) (hsy.mono (by k_extra "sub9")) hx) (by k_room) (by k_units) ?_ (fun h9 => h9.elim))
  rintro r9 news9 h9 tk9 F9 N9 ⟨rfl, rfl⟩
  k_steps
  refine Stop.on ?_
  k_extra "and9"
  rename News _ _ _ _ => N9
  refine' selN (K := [cel sp c tc nn]) (S := S) N9 ?sel ?ks ?_
  case sel => k_extra "sel9"
  case ks => k_extra "mems9"
  clear N9
  intro N9
  dsimp only [List.cons_append, List.nil_append] at N9
  k_dflt (refine tel_go (by k_asm) (by k_asm) (by k_asm) (by k_asm) (by rfl) (by k_asm) (CA _ (by k_extra "sub8") (by k_extra "nes8")) (by k_room) (by k_units) ?_ ?_)
  · rintro r9 news9 h9 tk9 F9 N9 ⟨tA, c9, tl9, tc9, nn9, rfl, rfl, ho9, hof9, hd9⟩
    obtain ⟨a9, rfl⟩ := Ty.hin hd9
    repeat (obtain ⟨hn9, hof9⟩ := offL_uncons hof9)
    refine' addN [(a, instObj 324 ds), (ds, symD w nm "stfunc" (.ref tp) dm t 9), (dl, listOf [.str (nmS false) tx].toArray nl)] N9 ?ks1 ?_
    case ks1 => k_extra "mems9"
    clear N9
    intro N9
    dsimp only [List.cons_append, List.nil_append] at N9
    k_steps
    refine Stop.on ?_
    k_dflt (refine tel_go (by k_asm) (by k_asm) (by k_asm) (by k_asm) (by rfl) (by k_asm) (as_kind w (.ref a9) tA _ _ (DatIn.mono (by k_extra "sub8") hd9)) (by k_room) (by k_units) ?_ (fun h9 => h9.elim))
    rintro r8 news8 h8 tk8 F8 N8 ⟨rfl, rfl⟩
    k_steps
    rename News _ _ _ _ => N9
    refine' unrEndS S (by assumption) N9 ?hI ?sel3 ?off3 ?r3
    case hI => k_mem
    case sel3 => k_extra "sel9"
    case off3 => (dsimp only [List.cons_append, List.nil_append, List.append_assoc]; k_extra "nes8")
    case r3 =>
      refine' RangeRest.zero (fun h7 tk7 F7 N7 => ?_)
      refine' addN [(a, instObj 324 ds), (ds, symD w nm "stfunc" (.ref tp) dm t 9)] N7 ?ks3 ?_
      case ks3 => k_extra "mems9"
      clear N7
      intro N7
      simp only [List.cons_append, List.nil_append, List.append_assoc] at N7
      k_steps
      refine Stop.on ?_
      have hc9 := hcA _ _ rfl
      have hd2 : Obj.IsDictOf (PySem.strKind PR w) _ [(nmS false, Value.ref a9)] := ‹Obj.IsDictOf _ _ (stored _ _ _)›
      rename News _ _ _ _ => N9
      refine' selN (K := [cel sp c9 tc9 nn9, (_, scoD w sy lim _ _ _ 0 _ _ _ _ _ _ _ _), (_, instObj 122 _)]) (S := S) N9 ?sel4 ?ks4 ?_
      case sel4 => k_extra "sel9"
      case ks4 => k_extra "mems9"
      clear N9
      intro N9
      simp only [List.cons_append, List.nil_append, List.append_assoc] at N9
      k_dflt (refine tel_go (by k_asm) (by k_asm) (by k_asm) (by k_asm) (by rfl) (by k_asm) (check_put w _ sc _ _ sy lim gv op sp _ _ _ _ _ hi c9 tc9 nn9 nop _ _ _ _ _ _ _ _ vb b vs opn (hsc.mono (by k_extra "sub8")) (by k_mem) (strs_dat hst) hok (hb.mono (by k_extra "sub8")) hz (by omega) (by omega) (by omega) (by omega) (by k_extra "nes8") (by k_extra "nes8") (by k_ne) (by k_ne) (by k_ne)) (by k_room) (by k_units) ?_ ?_)
      · rintro r6 news6 h6 tk6 F6 N6 ⟨rfl, hov, tc6, nn6, th6, rfl⟩
        have hov' : overB opn hi b c9 = false := by
          unfold overB cnt
          refine decide_eq_false fun h => hov ?_
          by_cases ho : opn = []
          · simp only [ho, if_true] at h ⊢; omega
          · simp only [ho, if_false] at h ⊢; omega
        have e1 : (if opn = [] then (0 : Int) else (c9 : Int)) + 1 = ((cnt opn c9 + 1 : Nat) : Int) := by unfold cnt; split <;> simp
        have e2 : (hi : Int) + (b.hgt : Int) = ((hi + b.hgt : Nat) : Int) := by simp
        rw [e1, e2] at N6
        k_steps
        refine Stop.on ?_
        k_dflt (refine tel_go (by k_asm) (by k_asm) (by k_asm) (by k_asm) (by rfl) (by k_asm) (CB _ _ _ _ _ _ rfl hov' (by k_extra "sub8") (by k_extra "nes8") ⟨_, _, [(nmS false, .ref a9)], _, _, ⟨_, _, _, _, _, _, _, _, _, List.mem_cons_of_mem _ List.mem_cons_self, List.mem_cons_self⟩, ⟨_, by k_mem, hd2, by assumption⟩, ⟨_, rfl, DatIn.data (by k_extra "isd9") hd9⟩, by k_mem, strs_app hst⟩) (by k_room) (by k_units) ?_ ?_)
        · rintro r5 news5 h5 tk5 F5 N5 ⟨tB, c5, tl5, tc5, nn5, hrB, rfl, ho5, hof5, hd5⟩
          have hfin : putRes opn hi b (some (tA, c9)) resB = some (tB, c5) := by simp only [putRes, bindT, hov', Bool.false_eq_true, if_false]; exact hrB
          obtain ⟨hg1, hg2, hg3⟩ := hgr _ _ hfin
          obtain ⟨a5, rfl⟩ := Ty.hin hd5
          have hs5 : OffL tl5 S := fun p hp q hq => hof5 p hp q (by k_mem)
          refine' addN [(a, instObj 324 ds), (ds, symD w nm "stfunc" (.ref tp) dm t 9)] N5 ?ks5 ?_
          case ks5 => k_extra "mems9"
          clear N5
          intro N5
          simp only [List.cons_append, List.nil_append] at N5
          k_steps
          refine Stop.on ?_
          k_dflt (refine tel_go (by k_asm) (by k_asm) (by k_asm) (by k_asm) (by rfl) (by k_asm) (as_kind w (.ref a5) tB _ _ (DatIn.mono (by k_extra "sub8") hd5)) (by k_room) (by k_units) ?_ (fun h9 => h9.elim))
          rintro r4 news4 h4 tk4 F4 N4 ⟨rfl, rfl⟩
          k_steps
          refine Stop.on ?_
          k_dflt (refine tel_go (by k_asm) (by k_asm) (by k_asm) (by k_asm) (by rfl) (by k_asm) (growth w (.ref a5) tB _ (DatIn.mono (by k_extra "sub8") hd5) hg1 hg2 hg3) (by k_room) (by k_units) ?_ (fun h9 => h9.elim))
          rintro r3 news3 h3 tk3 F3 N3 ⟨tl3, rfl, rfl⟩
          replace N3 := news_sub N3 (fun p hp => List.mem_append_right _ hp)
          k_steps
          rename News _ _ _ _ => N9
          refine' selN (K := [cel sp c5 tc5 nn5]) (S := S) N9 ?sel6 ?ks6 ?_
          case sel6 => k_extra "sel9"
          case ks6 => k_extra "mems9"
          clear N9
          intro N9
          exact hret _ _ _ _ (by assumption) N9 (EvP.mkS hfin (by k_extra "nes8") (by k_extra "offs8") (DatIn.mono (by simp only [List.cons_append, List.nil_append, List.append_assoc]; k_extra "sub8") hd5))
        · intro hx e9 h9 tk9 Fl9
          exact fly_on Fl9 (by assumption) (by assumption) (fun h' Fl' => hexc (by simp only [putRes, bindT, hov', Bool.false_eq_true, if_false]; exact hx) _ _ _ Fl')
      · intro hx e9 h9 tk9 Fl9
        have hov' : overB opn hi b c9 = true := by
          unfold overB cnt
          refine decide_eq_true ?_
          by_cases ho : opn = []
          · simp only [ho, if_true] at hx ⊢; omega
          · simp only [ho, if_false] at hx ⊢; omega
        exact fly_on Fl9 (by assumption) (by assumption) (fun h' Fl' => hexc (by simp only [putRes, bindT, hov', if_true]) _ _ _ Fl')
  · intro hx e9 h9 tk9 Fl9
    exact fly_on Fl9 (by assumption) (by assumption) (fun h' Fl' => hexc (by rw [putRes, hx]; rfl) _ _ _ Fl')
theorem reg_words_Exp : True := by
  k_with_none
  w_top off
  k_with "for!" => fail "no word"
  k_with "memr9" => first
    | with_reducible assumption
    | with_reducible exact List.mem_cons_self
    | (with_reducible refine List.mem_cons_of_mem _ ?_; k_extra "memr9")
    | (with_reducible refine List.mem_append_right _ ?_; k_extra "memr9")
    | (with_reducible refine List.mem_append_left _ ?_; k_extra "memr9")
  k_with "mem9" => first
    | k_extra "memr9"
    | assumption
    | k_mem
    | (simp only [List.mem_cons, List.mem_append] at *; simp only [*, true_or, or_true])
    | grind
  k_with "sub8" => first
    | exact List.forall_mem_nil _
    | (refine' List.forall_mem_cons.mpr ⟨?m8, ?_⟩; (case m8 => k_mem); k_extra "sub8")
    | (refine' List.forall_mem_append.mpr ⟨?m8, ?_⟩; (case m8 => k_extra "sub8"); k_extra "sub8")
    | (intro p8 h8; k_mem)
  k_with "sub9" => first
    | k_extra "sub8"
    | (intro p9 h9; first
      | exact h9
      | (simp only [List.mem_cons, List.mem_append] at h9 ⊢; grind))
  k_with "dat9" => repeat' (first
    | exact DatIn.str _ _
    | exact DatIn.int _ _
    | exact DatAll.nil
    | assumption
    | (refine' DatAll.cons ?_ ?_)
    | (refine' DatIn.tuple ?m9 ?_; (case m9 => k_extra "mem9"))
    | (refine' DatIn.list ?m9 ?_; (case m9 => k_extra "mem9"))
    | (refine' DatIn.mono ?s9 ?h9; (case h9 => assumption); (case s9 => k_extra "sub9")))
  k_with "and9" => first
    | ((fail_if_success (fail_if_success (rename _ ∧ _ => hc9))); refine foldP (fun G9 hG9 => ?_); (repeat' (rename _ ∧ _ => hc9; refine and_go hc9 (fun hc8 hc7 => ?_); clear hc9)); refine hG9 ?_; clear hG9 G9)
    | skip
  k_with "fold9" => ((fail_if_success (fail_if_success k_fold)); refine (let q9 := _; let e9 := _; (?_ : wpAny _ _ _ q9 e9 _)))
  k_with "ne9" => first
    | assumption
    | (refine' ne_all ?h9 ?s9; (case h9 => assumption); (case s9 => k_extra "sub9"))
    | (refine' ne_allT ?h9 ?s9; (case h9 => assumption); (case s9 => k_extra "sub9"))
  k_with "off9" => (
    refine' off_of ?_
    repeat' (first
    | exact offL_nil
    | (refine' offL_sub ?h9 ?s9; (case h9 => assumption); (case s9 => k_extra "sub9"))
    | (refine' offL_cons ?o9 ?_; (case o9 => k_extra "ne9"))
    | (refine' offL_app ?_ ?_)))
  k_with "split9" => first | exact Split.base | (refine Split.cons ?_; k_extra "split9") | (refine Split.app ?_; k_extra "split9")
  k_with "same9" => (intro z9 h1 h2 h3; (simp only [List.mem_cons, List.not_mem_nil, or_false, forall_eq_or_imp, forall_eq] at h2); (simp only [List.contains_cons, List.contains_nil, Bool.or_false, Bool.or_eq_false_iff, beq_eq_false_iff_ne, ne_eq] at h3); (simp [h1, h2, h3, kstB]; done))
  k_with "sameW9" => (intro z9 h2 h3; (simp only [List.mem_cons, List.not_mem_nil, or_false, forall_eq_or_imp, forall_eq] at h2); (simp only [List.contains_cons, List.contains_nil, Bool.or_false, Bool.or_eq_false_iff, beq_eq_false_iff_ne, ne_eq] at h3); (simp [h2, h3, kstB]; done))
  k_with "one9" => (first | exact List.forall_mem_nil _ | (refine' List.forall_mem_cons.mpr ⟨?a9, ?_⟩; (case a9 => with_unfolding_all rfl); k_extra "one9"))
  k_with "offE9" => ((try dsimp only); (repeat (refine' List.forall_mem_cons.mpr ⟨?o9, ?_⟩; (case o9 => ((try dsimp only); k_ne)))); (repeat' (rename _ ∧ _ => hc9; rcases hc9 with ⟨hc8, hc7⟩)); first | exact List.forall_mem_nil _ | assumption | exact lt_ne (by assumption) | exact gt_ne (by assumption))
  k_with "rot9" => repeat' (first | exact Rot.here | refine' Rot.next ?_)
  k_with "nes8" => repeat' (first | assumption | exact List.forall_mem_nil _ | (refine' List.forall_mem_cons.mpr ⟨?m8, ?_⟩; (case m8 => dsimp only; first | exact Nat.ne_of_gt (by assumption) | exact Nat.ne_of_lt (by assumption) | assumption | exact Ne.symm (by assumption) | k_ne)) | exact lt_ne (by assumption) | refine' List.forall_mem_append.mpr ⟨?_, ?_⟩)
  k_with "offs8" => repeat' (first | assumption | exact offL_nil | exact offL_swap (by assumption) | (refine' offL_cons ?m8 ?_; (case m8 => dsimp only; first | exact lt_ne (by assumption) | (refine' lt_ne2 ?A8 ?B8; (case B8 => assumption); (case A8 => assumption)) | k_extra "ne9")) | refine' offL_app ?_ ?_)
  k_with "sel9" => repeat' (first | exact Sel.base | (refine' Sel.old ?m9 ?_; (case m9 => assumption)) | (refine' Sel.cut ?m9 ?_; (case m9 => repeat (first | exact List.mem_cons_self | refine List.mem_cons_of_mem _ ?_))) | refine' Sel.keep ?_ | refine' Sel.app ?_)
  k_with "mems9" => repeat' (first | exact List.forall_mem_nil _ | (refine' List.forall_mem_cons.mpr ⟨?m9, ?_⟩; (case m9 => k_extra "mem9")))
  k_with "isd9" => repeat' (first | (refine' dat_cons ?m9 ?_; (case m9 => first | (intro _; k_mem) | (intro q9; exact absurd q9 (dict_no (by assumption))) | (intro q9; exact absurd q9 (by simp [isDat, instObj, dictOf, itR])))) | (refine' dat_app ?m9 ?_; (case m9 => k_extra "sub9")) | (refine' dat_end ?m9; (case m9 => k_extra "sub9")))
  k_with "~execs cons" => k_extra "fold9"
  k_with "~call builtin:isinstance" => (k_here; (with_reducible show wpAny _ _ (call _ [Value.ref _, Value.type _]) _ _ _); kit_cont; k_dflt kit_objs)
  k_with "~eval Call" => k_extra "fold9"
  k_with "~eval Compare" => k_extra "fold9"
  k_with "~eval BinOp" => k_extra "fold9"
  k_with "~eval Tuple" => k_extra "fold9"
  k_with "~eval List" => k_extra "fold9"
  k_with "~eval Subscript" => k_extra "fold9"
  k_with "~eval Attribute" => k_extra "fold9"
  k_with "~eval IfExp" => k_extra "fold9"
  k_with "lt9" => first
    | with_reducible assumption
    | exact cj0 (by with_reducible assumption)
    | exact cj1 (by with_reducible assumption)
    | exact cj2 (by with_reducible assumption)
    | exact cj3 (by with_reducible assumption)
    | exact cj4 (by with_reducible assumption)
    | exact cj5 (by with_reducible assumption)
    | exact cj6 (by with_reducible assumption)
    | exact cj7 (by with_reducible assumption)
    | exact cz1 (by with_reducible assumption)
    | exact cz2 (by with_reducible assumption)
    | exact cz3 (by with_reducible assumption)
    | exact cz4 (by with_reducible assumption)
    | exact cz5 (by with_reducible assumption)
    | exact cz6 (by with_reducible assumption)
    | exact cz7 (by with_reducible assumption)
    | fail "lt9"
  k_with "om9" => first
    | with_reducible assumption
    | exact Nat.le_of_ble_eq_true rfl
    | exact Ne.symm (by with_reducible assumption)
    | ((with_reducible show (_ : Nat) ≠ _); first | exact Nat.ne_of_lt (by k_extra "lt9") | exact Nat.ne_of_gt (by k_extra "lt9"))
    | ((with_reducible show (_ : Nat) < _); first
      | exact rm1 (by with_reducible assumption) (by exact rfl)
      | exact rm0 (by with_reducible assumption)
      | exact rn1 (by with_reducible assumption) (by exact rfl)
      | exact rn3 (by with_reducible assumption) (by exact rfl)
      | exact rf2 (by with_reducible assumption) (by with_reducible assumption) (by exact rfl)
      | exact rm3 (by with_reducible assumption) (by exact rfl)
      | exact uf2 (by with_reducible assumption) (by with_reducible assumption) (by exact rfl)
      | exact um3 (by with_reducible assumption) (by exact rfl)
      | exact rf1 (by with_reducible assumption) (by with_reducible assumption) (by exact rfl)
      | exact rf3 (by with_reducible assumption) (by with_reducible assumption) (by exact rfl)
      | exact uf3 (by with_reducible assumption) (by with_reducible assumption) (by exact rfl)
      | k_extra "lt9")
    | fail "om9"
  k_with "~@k_all" => first | assumption | exact lt_ne (by assumption) | exact gt_ne (by assumption) | (refine' List.forall_mem_append.mpr ⟨?q9a, ?q9b⟩; (case q9a => k_all); (case q9b => k_all))
  k_with "~call builtin:len" => (k_here; (with_reducible show wpAny _ _ (call (Value.builtin "len") [Value.ref _]) _ _ _); (refine KM.len_K (by k_asm) (by k_dflt k_mem) rfl (by simp; omega) ?_))
  k_with "~@k_room" => ((try simp only [depth_mark, depth_under_make, depth_under_kw, depth_in1, depth_deeper, depth_caller]); (try dsimp only [ktrTop]); omega)
  k_with "~@k_units" => ((have hcL9 := cLine_is); (try simp only [units_in1, units_deeper, Around.mark_units, units_caller]); (try dsimp only [ktrTop]); omega)
  k_with "~exec While Compare cons nil" => k_extra "while!"
  k_with "~pyIter ref" => k_extra "iter!"
  k_with "~call ref" => k_extra "call!"
  k_with "~exec For Name Call cons nil" => (k_extra "for!"; k_here; (rename Fr _ _ _ _ => z9lF'); (with_unfolding_all refine' For_invVF z9lF' ?q9k1 ?q9k2 ?_; (case q9k1 => exact rfl); (case q9k2 => exact rfl); k_whole))
  k_with "~exec For Name Name cons nil" => (k_extra "for!"; k_here; (rename Fr _ _ _ _ => z9lF'); (with_unfolding_all refine' For_invVF z9lF' ?q9k1 ?q9k2 ?_; (case q9k1 => exact rfl); (case q9k2 => exact rfl); k_whole))
  k_with "~@k_mem" => first | assumption | exact List.mem_cons_self | (refine List.mem_cons_of_mem _ ?_; k_mem) | (refine List.mem_append_left _ ?_; k_mem) | (refine List.mem_append_right _ ?_; k_mem)
  k_with "~subscriptTail Name Slice ref ref" => (k_here; (with_reducible show wpAny _ _ (subscriptTail _ (PySem.Expr.Slice _ none none _) (Value.ref _) (Value.ref _)) _ _ _); k_dflt (refine' tup_from ?q9F ?q9N ?q9b ?q9o ?q9l ?q9e ?_ ?q9s ?q9t ?q9z; (case q9F => k_asm); (case q9N => k_asm); (case q9b => k_mem); (case q9o => decide); (case q9l => exact Nat.le_of_ble_eq_true rfl); (case q9e => kl_lit); (case q9s => with_unfolding_all rfl); (case q9t => (intro _; with_unfolding_all rfl)); (case q9z => (simp only [List.length_cons, List.length_nil, sizeLine_eq]; omega))); intro z9D' z9h' z9F' z9N' z9l1; (try k_lt z9l1); (try k_sweep))
  k_with "~exec For Name Subscript cons nil" => (k_here; (rename Fr _ _ _ _ => z9lF'); (with_unfolding_all refine' For_turns z9lF' ?_; k_whole))
  k_with "~exec For Name Name cons nil" => (k_extra "turns!"; k_here; (rename Fr _ _ _ _ => z9lF'); (with_unfolding_all refine' For_turns z9lF' ?_; k_whole))
  k_with "~pyIter ref" => (k_here; (with_reducible show wpAny _ _ (pyIter (Value.ref _)) (fun it s₂ => TurnsAt _ _ _ _ _ _ _ _ _ it s₂) _ _); (rename Fr _ _ _ _ => z9lF'); (rename News _ _ _ _ => z9lN'); k_dflt (refine' iter_tupTurns ?q9h z9lF' z9lN' ?q9m ?q9c ?q9d ?_; (case q9h => with_unfolding_all rfl); (case q9m => k_mem); (case q9c => exact rfl); (case q9d => exact rfl)); clear z9lF'; intro z9i' z9l1; (try k_lt z9l1))
  k_with "~pyIter ref" => (k_here; (with_reducible show wpAny _ _ (pyIter (Value.ref _)) (fun it s₂ => TurnsAt _ _ _ _ _ _ _ _ _ it s₂) _ _); (rename Fr _ _ _ _ => z9lF'); (rename News _ _ _ _ => z9lN'); k_dflt (refine' iter_listTurns ?q9h z9lF' z9lN' ?q9m ?q9c ?q9d ?_; (case q9h => with_unfolding_all rfl); (case q9m => k_mem); (case q9c => exact rfl); (case q9d => exact rfl)); clear z9lF'; intro z9i' z9l1; (try k_lt z9l1))
  k_with "~UnrEndW" => ((rename Fr _ _ _ _ => z9lF'); (rename News _ _ _ _ => z9lN'); (refine' unrEnd z9lF' z9lN' ?q9c9 ?q9o9 ⟨?q9k9, ?_⟩; (case q9c9 => repeat' (first | exact Cut.base | refine' Cut.cons ?_)); (case q9o9 => k_extra "offE9"); (case q9k9 => k_subL)); clear z9lF' z9lN')
  k_with "~@size_fits" => (simp only [List.size_toArray, List.length_append, List.length_cons, List.length_nil, sizeLine_eq]; omega)
  k_with "~call builtin:list.extend" => (k_here; (with_reducible show wpAny _ _ (call (Value.builtin _) [Value.ref _, Value.ref _]) _ _ _); k_dflt (refine' ext_list ?q9F ?q9N ?q9b ?q9ne ?q9U ?q9z ?_; (case q9F => k_asm); (case q9N => k_asm); (case q9b => k_mem); (case q9U => k_upd); (case q9ne => exact List.cons_ne_nil _ _); (case q9z => (simp only [List.length_append, List.length_cons, List.length_nil]; omega))); intro z9h' z9F' z9N'; (try k_sweep))
  k_with "~call builtin:list.pop" => (k_here; (with_reducible show wpAny _ _ (call (Value.builtin _) [Value.ref _]) _ _ _); k_dflt (refine' pop_list ?q9F ?q9N ?q9U ?q9z ?_; (case q9F => k_asm); (case q9N => k_asm); (case q9U => k_upd); (case q9z => omega)); intro z9h' z9F' z9N'; (try k_sweep))
  k_with "~exec Raise some none" => (k_here; refine raise_fault (by rfl) ?_)
  k_with "~call ref" => ((with_reducible show wpAny _ _ (call (Value.ref 44) [_]) _ _ _); k_here; k_dflt (refine' call_fault ?q9k1 ?q9k2 ?q9k3 ?_; (case q9k1 => k_asm); (case q9k2 => k_asm); (case q9k3 => k_asm); intro z9e' z9t' z9h' z9F' z9N' z9l1 z9l2 z9l3 z9n' z9k'; (try k_lt z9l1); (try k_lt2 z9l2); (try k_lt z9l3); (try k_sweep); k_enter))
  k_with "~getMethod type:Exception" => (k_here; (with_reducible refine' method_type ?q9F ?q9X exc_kind exc_stub ?q9e ?q9h ?_); k_dflt ((case q9F => k_asm); (case q9X => k_asm); (case q9e => k_is); (case q9h => k_handed)))
  k_with "~call builtin:Exception.__init__" => (k_here; k_dflt (refine' exc_init ?q9F ?q9X ?q9N ?q9U ?_; (case q9F => k_asm); (case q9X => k_asm); (case q9N => k_asm); (case q9U => k_updF); intro z9t' z9h' z9F' z9N'; (try dsimp only at z9N'); (try k_sweep)))
  k_with "~setAttr ref" => ((with_reducible show wpAny _ _ (setAttr (Value.ref _) (PySem.Str.ofString "text") _) _ _ _); k_here; k_dflt (refine' set_text ?q9T ?q9F ?q9X ?q9N ?q9U ?_; (case q9T => rfl); (case q9F => k_asm); (case q9X => k_asm); (case q9N => k_asm); (case q9U => k_updF); intro z9d' z9h' z9tk' z9F' z9N'; (try dsimp only at z9N'); (try k_sweep)))
  k_with "~exec Raise some none" => (k_here; k_dflt (refine raise_fault' (by rfl) ?_))
  k_with "~Raises44" => (k_here; k_dflt (refine' raises_of ?q9F ?q9X ?q9N ?q9m ?_; (case q9F => k_asm); (case q9X => k_asm); (case q9N => k_asm); (case q9m => k_mem)))
  k_with "~leaving ref" => (k_here; k_dflt (refine' leave_newB ?q9k1 ?q9k2 ?q9k3 ?q9k4 ?_; (case q9k1 => assumption); (case q9k2 => assumption); (case q9k3 => assumption); (case q9k4 => k_mem); k_whole; intro z9h' z9R' z9U'; (try dsimp only at z9R' z9U' ⊢)))
  k_with "~compareOp NotIn str ref" => (k_here; k_dflt (first
    | refine kdg_notin (knd := PySem.strKind _ _) (by k_asm) (by k_mem) (by assumption) (by assumption) (strKind_is _ _ _ _) true (by rw [‹valueAt _ _ = some _›]; rfl) ?_
    | refine kdg_notin (knd := PySem.strKind _ _) (by k_asm) (by k_mem) (by assumption) (by assumption) (strKind_is _ _ _ _) false (by rw [‹valueAt _ _ = none›]; rfl) ?_); (try dsimp only [Bool.not_true, Bool.not_false]))
  k_with "~compareOp In str ref" => (k_here; k_dflt (first
    | refine kda_in (knd := PySem.strKind _ _) (by k_asm) (by k_mem) (by assumption) (by assumption) (strKind_is _ _ _ _) true (by rw [‹valueAt _ _ = some _›]; rfl) ?_
    | refine kda_in (knd := PySem.strKind _ _) (by k_asm) (by k_mem) (by assumption) (by assumption) (strKind_is _ _ _ _) false (by rw [‹valueAt _ _ = none›]; rfl) ?_))
  k_with "~subscriptTail" => (k_here; k_dflt ((with_reducible show wpAny _ _ (subscriptTail _ _ (Value.ref _) (Value.str _ _)) _ _ _); refine kda_item (knd := PySem.strKind _ _) (by k_asm) (by k_mem) (by assumption) (strKind_is _ _ _ _) (by assumption) ?_))
  k_with "~subscriptTail" => (k_here; (with_reducible show wpAny _ _ (subscriptTail _ _ (Value.ref _) (Value.int 1 _)) _ _ _); k_dflt (refine item_kind (by k_asm) (by assumption) (by k_extra "sub9") ?_ (by with_unfolding_all rfl) (by intro _; with_unfolding_all rfl)); intro z9t')
  k_with "~@k_upd" => ((with_reducible show Upd _ _ _ (_ ++ _) _); refine' Upd.app ?q9a ?q9b; (case q9a => k_all); (case q9b => k_upd))
  k_with "~@k_updF" => ((with_reducible show UpdF _ _ (_ ++ _) _); refine' UpdF.app ?q9a ?q9b; (case q9a => k_all); (case q9b => k_updF))
  k_with "~call builtin:len" => (k_here; (with_reducible show wpAny _ _ (call (Value.builtin "len") [Value.ref _]) _ _ _); k_dflt (refine len_one (by k_asm) (by k_mem) ?_))
  k_with "~compareOp In str ref" => (k_here; k_dflt (refine in_strs (by k_asm) (by k_mem) (by assumption) (by assumption) ?_))
  k_with "~binaryOp Add ref ref" => (k_here; (with_reducible show wpAny _ _ (binaryOp _ (Value.ref _) (Value.ref _)) _ _ _); k_dflt (refine' cat_lists ?q9F ?q9N ?q9a ?q9b ?q9z ?_; (case q9F => k_asm); (case q9N => k_asm); (case q9a => k_mem); (case q9b => k_mem); (case q9z => (simp only [List.length_cons, List.length_nil]; omega))); intro z9D' z9h' z9F' z9N' z9l1; (try k_lt z9l1); (try k_sweep))
  k_with "~subscriptTail Name Name ref int" => (k_here; k_dflt (refine item_one (by k_asm) (by k_mem) ?_ (by with_unfolding_all rfl) (by intro _; with_unfolding_all rfl)))
  k_with "~setItem ref str" => (k_here; k_dflt (refine' kda_set (knd := PySem.strKind _ _) ?q9F ?q9N ?q9U ?q9d (strKind_is _ _ _ _) ?q9z ?_; (case q9F => k_asm); (case q9N => k_asm); (case q9U => k_updF); (case q9d => assumption); (case q9z => rw [sizeLine_eq]; exact Nat.le_of_ble_eq_true (by with_unfolding_all rfl))); intro z9h' z9o' z9F' z9N' z9hd'; (try dsimp only at z9N'))
  trivial
section
variable (w : World) (v : Value) (sc : Addr) (fr : Nat) (news S : List (Addr × Obj)) (hsub : ∀ p ∈ S, p ∈ news) (P : Value → List (Addr × Obj) → Prop) (Xc : Prop)
include hsub
theorem rexpr_nm (z : Bool) (hv : DatIn S v (Ex.nm z).dat) (C : ∀ t, Tel w 168 [.str (nmS z) t, .ref sc] fr news P Xc) (hP : ∀ r news', P r news' → handedIn r = true) : Tel w 278 [v, .ref sc] (fr + 2) news P Xc := by
  have lp : Challenge.rw_pq0356_01.foot = Challenge.rw_pq0356_01.foot ∧ hd.heap_39 = hd.heap_39 := by k_fill; exact ⟨rfl, rfl⟩
  clear lp
  intro mean mg mb dp un gd cn cs a ccd cl outer A₀ base h₀ L m s Q E B F X N T hk hdp hun hret hexc
  k_with "call!" => ((with_reducible show wpAny _ _ (call (Value.ref 168) _) _ _ _); refine Stop.out ?_)
  obtain ⟨ad, nn, t1, t2, rfl, hm⟩ := Ex.nm_inv hv
  have hm := hsub _ hm
  refine wpAny_call ?_
  k_dflt ktr_enter
  k_steps
  refine Stop.on ?_
  k_dflt (refine tel_go (by k_asm) (by k_asm) (by k_asm) (by k_asm) (by rfl) (by k_asm) (C _) (by k_room) (by k_units) ?_ ?_)
  · rintro r9 news9 h9 tk9 F9 N9 hp9
    have hh9 := hP _ _ hp9
    k_steps
    exact hret _ _ _ _ (by assumption) (by assumption) hp9
  · intro hx e9 h9 tk9 Fl9
    exact fly_on Fl9 (by assumption) (by assumption) (fun h' Fl' => hexc hx _ _ _ Fl')
theorem rexpr_rf (k : Fin 12) (a : Ex) (hv : DatIn S v (Ex.rf k a).dat) (C : ∀ t al nl va, (al, listOf [va].toArray nl) ∈ S → DatIn S va a.dat → Tel w 187 [.str (fnm k.val) t, .ref al, .ref sc] fr news P Xc) (hP : ∀ r news', P r news' → handedIn r = true) : Tel w 278 [v, .ref sc] (fr + 2) news P Xc := by
  intro mean mg mb dp un gd cn cs a ccd cl outer A₀ base h₀ L m s Q E B F X N T hk hdp hun hret hexc
  k_with "call!" => ((with_reducible show wpAny _ _ (call (Value.ref 187) _) _ _ _); refine Stop.out ?_)
  obtain ⟨ad, nn, t1, t2, al, nl, va, rfl, hm, hl, ha⟩ := Ex.rf_inv hv
  have hm := hsub _ hm
  refine wpAny_call ?_
  k_dflt ktr_enter
  k_steps
  refine Stop.on ?_
  k_dflt (refine tel_go (by k_asm) (by k_asm) (by k_asm) (by k_asm) (by rfl) (by k_asm) (C _ _ _ _ hl ha) (by k_room) (by k_units) ?_ ?_)
  · rintro r9 news9 h9 tk9 F9 N9 hp9
    have hh9 := hP _ _ hp9
    k_steps
    exact hret _ _ _ _ (by assumption) (by assumption) hp9
  · intro hx e9 h9 tk9 Fl9
    exact fly_on Fl9 (by assumption) (by assumption) (fun h' Fl' => hexc hx _ _ _ Fl')
theorem rexpr_ng (e : Ex) (hv : DatIn S v (Ex.ng e).dat) (C : ∀ t ve, DatIn S ve e.dat → Tel w 250 [.str (Str.ofString "-") t, ve, .ref sc] fr news P Xc) (hP : ∀ r news', P r news' → handedIn r = true) : Tel w 278 [v, .ref sc] (fr + 2) news P Xc := by
  intro mean mg mb dp un gd cn cs a ccd cl outer A₀ base h₀ L m s Q E B F X N T hk hdp hun hret hexc
  k_with "call!" => ((with_reducible show wpAny _ _ (call (Value.ref 250) _) _ _ _); refine Stop.out ?_)
  obtain ⟨ad, nn, t1, t2, ve, rfl, hm, he⟩ := Ex.ng_inv hv
  have hm := hsub _ hm
  obtain ⟨ad1, n1, vs1, rfl, hm1⟩ := Ex.shape he
  refine wpAny_call ?_
  k_dflt ktr_enter
  k_steps
  refine Stop.on ?_
  k_dflt (refine tel_go (by k_asm) (by k_asm) (by k_asm) (by k_asm) (by rfl) (by k_asm) (C _ _ he) (by k_room) (by k_units) ?_ ?_)
  · rintro r9 news9 h9 tk9 F9 N9 hp9
    have hh9 := hP _ _ hp9
    k_steps
    exact hret _ _ _ _ (by assumption) (by assumption) hp9
  · intro hx e9 h9 tk9 Fl9
    exact fly_on Fl9 (by assumption) (by assumption) (fun h' Fl' => hexc hx _ _ _ Fl')
theorem rexpr_bi (p : Bool) (l r : Ex) (hv : DatIn S v (Ex.bi p l r).dat) (C : ∀ t vl vr, DatIn S vl l.dat → DatIn S vr r.dat → Tel w 271 [.str (sgn p) t, vl, vr, .ref sc] fr news P Xc) (hP : ∀ r news', P r news' → handedIn r = true) : Tel w 278 [v, .ref sc] (fr + 2) news P Xc := by
  intro mean mg mb dp un gd cn cs a ccd cl outer A₀ base h₀ L m s Q E B F X N T hk hdp hun hret hexc
  k_with "call!" => ((with_reducible show wpAny _ _ (call (Value.ref 271) _) _ _ _); refine Stop.out ?_)
  obtain ⟨ad, nn, t1, t2, vl, vr, rfl, hm, hl, hr⟩ := Ex.bi_inv hv
  have hm := hsub _ hm
  obtain ⟨ad1, n1, vs1, rfl, hm1⟩ := Ex.shape hl
  obtain ⟨ad2, n2, vs2, rfl, hm2⟩ := Ex.shape hr
  refine wpAny_call ?_
  k_dflt ktr_enter
  k_steps
  refine Stop.on ?_
  k_dflt (refine tel_go (by k_asm) (by k_asm) (by k_asm) (by k_asm) (by rfl) (by k_asm) (C _ _ _ hl hr) (by k_room) (by k_units) ?_ ?_)
  · rintro r9 news9 h9 tk9 F9 N9 hp9
    have hh9 := hP _ _ hp9
    k_steps
    exact hret _ _ _ _ (by assumption) (by assumption) hp9
  · intro hx e9 h9 tk9 Fl9
    exact fly_on Fl9 (by assumption) (by assumption) (fun h' Fl' => hexc hx _ _ _ Fl')
theorem rexpr_one (sy lim gv op sp : Addr) (hi : Int) (hsc : ScoAt w S sc sy lim gv op sp hi) (hv : DatIn S v Ex.one.dat) (C : Tel w 154 [v, .ref lim] fr news P Xc) (hP : ∀ r news', P r news' → ∃ a, r = .ref a) : Tel w 278 [v, .ref sc] (fr + 2) news P Xc := by
  intro mean mg mb dp un gd cn cs a ccd cl outer A₀ base h₀ L m s Q E B F X N T hk hdp hun hret hexc
  k_with "call!" => ((with_reducible show wpAny _ _ (call (Value.ref 154) _) _ _ _); refine Stop.out ?_)
  obtain ⟨ad, nn, t1, t2, t3, rfl, hm⟩ := Ex.one_inv hv
  have hm := hsub _ hm
  obtain ⟨d, u1, u2, u3, u4, u5, u6, u7, uh, m1, m2⟩ := hsc
  have m1 := hsub _ m1
  have m2 := hsub _ m2
  have N2 : News h₀ L s.heap ((sc, instObj 122 d) :: (d, scoD w sy lim gv op sp hi u1 u2 u3 u4 u5 u6 u7 uh) :: news) := news_sub N (by k_extra "sub8")
  clear N
  refine wpAny_call ?_
  k_dflt ktr_enter
  k_steps
  refine Stop.on ?_
  rename News _ _ _ _ => N9
  replace N9 := news_sub (l' := news) N9 (by k_extra "sub8")
  k_dflt (refine tel_go (by k_asm) (by k_asm) (by k_asm) (by k_asm) (by rfl) (by k_asm) C (by k_room) (by k_units) ?_ ?_)
  · rintro r9 news9 h9 tk9 F9 N9 hp9
    obtain ⟨a9, rfl⟩ := hP _ _ hp9
    k_steps
    exact hret _ _ _ _ (by assumption) (by assumption) hp9
  · intro hx e9 h9 tk9 Fl9
    exact fly_on Fl9 (by assumption) (by assumption) (fun h' Fl' => hexc hx _ _ _ Fl')
end
/-- what resolving an expression comes to: the value of X, the open names, the height so far, the count so far; none where it raises -/
inductive Ev (bs : Fin 12 → Option Ex) : Nat → Option Ty → List Str → Nat → Nat → Ex → Option (Ty × Nat) → Prop
  | nmX {d : Nat} {t : Ty} {opn : List Str} {hi c : Nat} : Ev bs d (some t) opn hi c (.nm false) (some (t, c))
  | nmZ {d : Nat} {g : Option Ty} {opn : List Str} {hi c : Nat} : Ev bs d g opn hi c (.nm true) (some (.var, c))
  | one {d : Nat} {g : Option Ty} {opn : List Str} {hi c : Nat} : Ev bs d g opn hi c .one (some (.one, c))
  | ng {d : Nat} {g : Option Ty} {opn : List Str} {hi c : Nat} {e : Ex} {r : Option (Ty × Nat)} : Ev bs d g opn hi c e r → Ev bs (d + 6) g opn hi c (.ng e) (mapT .ng r)
  | bi {d : Nat} {g : Option Ty} {opn : List Str} {hi c : Nat} {p : Bool} {e e2 : Ex} {r : Option (Ty × Nat)} {r2 : Nat → Option (Ty × Nat)} : Ev bs d g opn hi c e r → (∀ t c', r = some (t, c') → Ev bs d g opn hi c' e2 (r2 c')) → Ev bs (d + 6) g opn hi c (.bi p e e2) (bindT r fun t c => mapT (Ty.bi p t) (r2 c))
  | rf {d : Nat} {g : Option Ty} {opn : List Str} {hi c : Nat} {k : Fin 12} {a b : Ex} {rA : Option (Ty × Nat)} {rB : Ty → Nat → Option (Ty × Nat)} : Ev bs d g opn hi c a rA → bs k = some b → opn.any (· == fnm k.val) = false → opn.length ≤ 100 → (∀ x ∈ opn, PyData.strOk x = true) → b.size ≤ 10000 → hi ≤ 1000 → (∀ t c, rA = some (t, c) → c ≤ 200) →
      (∀ tA c1, rA = some (tA, c1) → overB opn hi b c1 = false → Ev bs d (some tA) (opn ++ [fnm k.val]) (hi + b.hgt) (cnt opn c1 + 1) b (rB tA (cnt opn c1 + 1))) → (∀ t c, putRes opn hi b rA rB = some (t, c) → t.lev ≤ 100 ∧ t.nodes ≤ 10000 ∧ t.plus) → Ev bs (d + 9) g opn hi c (.rf k a) (putRes opn hi b rA rB)
/-- the table of symbols -/
noncomputable def SymsOK (w : World) (S : List (Addr × Obj)) (kvs : List (Str × Value)) (bs : Fin 12 → Option Ex) : Prop :=
  (∃ ax vx, valueAt kvs (nmS false) = some (.ref ax) ∧ SymAt w S ax (nmS false) "var" vx) ∧ (∃ az vz, valueAt kvs (nmS true) = some (.ref az) ∧ SymAt w S az (nmS true) "var" vz) ∧
  ∀ k b, bs k = some b → ∃ a tp dl nt nl tx vb, valueAt kvs (fnm k.val) = some (.ref a) ∧ SymAt w S a (fnm k.val) "stfunc" (.ref tp) ∧ (tp, tupO [.ref dl, vb] nt) ∈ S ∧ (dl, listOf [.str (nmS false) tx].toArray nl) ∈ S ∧ DatIn S vb b.dat
theorem SymsOK.mono {w : World} {S S' : List (Addr × Obj)} {kvs : List (Str × Value)} {bs : Fin 12 → Option Ex} (H : SymsOK w S kvs bs) (s : ∀ p ∈ S, p ∈ S') : SymsOK w S' kvs bs := by
  obtain ⟨⟨ax, vx, h1, h2⟩, ⟨az, vz, h3, h4⟩, h5⟩ := H
  refine ⟨⟨ax, vx, h1, h2.mono s⟩, ⟨az, vz, h3, h4.mono s⟩, fun k b hk => ?_⟩
  obtain ⟨a, tp, dl, nt, nl, tx, vb, e1, e2, e3, e4, e5⟩ := h5 k b hk
  exact ⟨a, tp, dl, nt, nl, tx, vb, e1, e2.mono s, s _ e3, s _ e4, e5.mono s⟩
theorem ScoOK.mono {w : World} {S S' : List (Addr × Obj)} {kvs : List (Str × Value)} {sc sy lim sp : Addr} {g : Option Ty} {opn : List Str} {hi : Nat} (H : ScoOK w S kvs sc sy lim sp g opn hi) (s : ∀ p ∈ S, p ∈ S') : ScoOK w S' kvs sc sy lim sp g opn hi := by
  obtain ⟨gv, op, kg, vs, nop, h1, h2, h3, h4, h5⟩ := H
  refine ⟨gv, op, kg, vs, nop, h1.mono s, h2.mono s, ?_, s _ h4, h5⟩
  cases g with
  | none => exact h3
  | some t => obtain ⟨v, e, hd⟩ := h3; exact ⟨v, e, hd.mono s⟩
theorem nm_ne : nmS false ≠ nmS true := by decide +kernel
theorem fnm_X : ∀ k : Fin 12, fnm k.val ≠ nmS false := by decide +kernel
theorem at_one {k : Str} {v : Value} {x : Str} : valueAt [(k, v)] x = if k = x then some v else none := by
  simp [valueAt]
theorem giv_none {g : Option Ty} {S : List (Addr × Obj)} {kg : List (Str × Value)} (h : match g with | some t => ∃ v, kg = [(nmS false, v)] ∧ DatIn S v t.dat | none => kg = []) {x : Str} (hx : nmS false ≠ x) : valueAt kg x = none := by
  cases g with
  | none => subst h; rfl
  | some t => obtain ⟨v, rfl, _⟩ := h; rw [at_one, if_neg hx]
theorem EvP.ref {S : List (Addr × Obj)} {sp : Addr} {res : Option (Ty × Nat)} {r : Value} {n : List (Addr × Obj)} (h : EvP S sp res r n) : ∃ a, r = .ref a := by
  obtain ⟨t, c, tl, tc, nn, _, rfl, _, _, hd⟩ := h
  exact Ty.hin hd
theorem EvP.hin {S : List (Addr × Obj)} {sp : Addr} {res : Option (Ty × Nat)} {r : Value} {n : List (Addr × Obj)} (h : EvP S sp res r n) : handedIn r = true := by
  obtain ⟨a, rfl⟩ := h.ref; rfl
theorem EvP.dat {S : List (Addr × Obj)} {sp : Addr} {res : Option (Ty × Nat)} {r : Value} {n : List (Addr × Obj)} (h : EvP S sp res r n) : ∃ t : Ty, DatIn n r t.dat := by
  obtain ⟨t, c, tl, tc, nn, _, rfl, _, _, hd⟩ := h
  exact ⟨t, hd.mono fun p hp => .tail _ hp⟩
/-- a result stands in tuples alone -/
theorem Ty.tups {S S' : List (Addr × Obj)} (hs : ∀ p ∈ S, p.2.cls = .type "tuple" → p ∈ S') : ∀ {t : Ty} {v : Value}, DatIn S v t.dat → DatIn S' v t.dat
  | .var, v, h => by
    obtain ⟨ad, n, t1, t2, t3, rfl, hm⟩ := Ty.var_inv h
    exact .tuple (hs _ hm rfl) (.cons (.str _ _) (.cons (.int _ _) (.cons (.str _ _) .nil)))
  | .one, v, h => by
    obtain ⟨ad, n, t1, t2, ad2, n2, t3, t4, rfl, hm, hm2⟩ := Ty.one_inv h
    exact .tuple (hs _ hm rfl) (.cons (.str _ _) (.cons (.int _ _) (.cons (.tuple (hs _ hm2 rfl) (.cons (.int _ _) (.cons (.int _ _) .nil))) .nil)))
  | .ng t, v, h => by
    obtain ⟨ad, n, t2, t3, ve, rfl, hm, he⟩ := Ty.ng_inv h
    rw [Ty.dat]
    exact .tuple (hs _ hm rfl) (.cons (.str _ _) (.cons (.int _ _) (.cons (Ty.tups hs he) .nil)))
  | .bi p l r, v, h => by
    obtain ⟨ad, n, t2, t3, vl, vr, rfl, hm, hl, hr⟩ := Ty.bi_inv h
    rw [Ty.dat]
    exact .tuple (hs _ hm rfl) (.cons (.str _ _) (.cons (.int _ _) (.cons (Ty.tups hs hl) (.cons (Ty.tups hs hr) .nil))))
/-- a leaf's ledger: what is new is put behind the cell -/
theorem leafP {S : List (Addr × Obj)} {sp : Addr} {t : Ty} {c : Nat} {tc : Tok} {nn : Nat} (r : Value) (n : List (Addr × Obj)) (h : ∃ tl, n = tl ++ cel sp c tc nn :: S ∧ OffL tl (cel sp c tc nn :: S) ∧ DatIn n r t.dat) :
    ∃ n', (∀ p ∈ n', p ∈ n) ∧ EvP S sp (some (t, c)) r n' := by
  obtain ⟨tl, rfl, ho, hdd⟩ := h
  refine ⟨cel sp c tc nn :: (tl ++ S), ?_, t, c, tl, tc, nn, rfl, rfl, fun p hp => ho p hp _ (.head _), fun p hp q hq => ho p hp q (.tail _ hq), Ty.tups ?_ hdd⟩
  · intro p hp
    rcases List.mem_cons.mp hp with rfl | hp
    · exact List.mem_append_right _ (.head _)
    · exact (List.mem_append.mp hp).elim (fun q => List.mem_append_left _ q) fun q => List.mem_append_right _ (.tail _ q)
  · intro p hp hc
    rcases List.mem_append.mp hp with q | q
    · exact List.mem_append_left _ q
    · rcases List.mem_cons.mp q with rfl | q
      · simp [cel, W.listOf] at hc
      · exact List.mem_append_right _ q
theorem ev_tel (w : World) (bs : Fin 12 → Option Ex) (sy lim sp : Addr) (kvs : List (Str × Value)) {d : Nat} {g : Option Ty} {opn : List Str} {hi c : Nat} {e : Ex} {r : Option (Ty × Nat)} (h : Ev bs d g opn hi c e r) :
    ∀ (S : List (Addr × Obj)) (v : Value) (sc : Addr) (tc : Tok) (nn : Nat), ScoOK w S kvs sc sy lim sp g opn hi → DicAt w S sy kvs → SymsOK w S kvs bs → LimAt w S lim → DatIn S v e.dat → (∀ p ∈ S, p.1 ≠ sp) →
      Tel w 278 [v, .ref sc] (d + 24) (cel sp c tc nn :: S) (EvP S sp r) (r = none) := by
  induction h with
  | @nmX d t opn hi c =>
    intro S v sc tc nn hS hsy hy hl hv hp
    obtain ⟨gv, op, kg, vs, nop, h1, h2, ⟨vx, rfl, hx⟩, h4, h5⟩ := hS
    refine Tel.mono (rexpr_nm w v sc 5 (cel sp c tc nn :: S) S (fun p hp => .tail _ hp) (fun r n => r = vx ∧ n = cel sp c tc nn :: S) False false hv (fun t' => name_X w sc sy lim gv op sp hi (cel sp c tc nn :: S) [(nmS false, vx)] (nmS false) t' vx (h1.mono fun p hp => .tail _ hp) (h2.mono fun p hp => .tail _ hp) (by rw [at_one, if_pos rfl])) ?_) (by omega) ?_ False.elim
    · rintro r n ⟨rfl, rfl⟩
      obtain ⟨a, rfl⟩ := Ty.hin hx; rfl
    · rintro r n ⟨rfl, rfl⟩
      exact ⟨_, fun p hp => hp, t, c, [], tc, nn, rfl, rfl, (fun _ hp => nomatch hp), (fun _ hp => nomatch hp), hx⟩
  | @nmZ d g opn hi c =>
    intro S v sc tc nn hS hsy hy hl hv hp
    obtain ⟨gv, op, kg, vs, nop, h1, h2, h3, h4, h5⟩ := hS
    obtain ⟨_, ⟨az, vz, hz1, hz2⟩, _⟩ := hy
    refine Tel.mono (rexpr_nm w v sc 7 (cel sp c tc nn :: S) S (fun p hp => .tail _ hp) _ False true hv (fun t' => name_Z w sc sy lim gv op sp az hi (cel sp c tc nn :: S) kg kvs t' vz (h1.mono fun p hp => .tail _ hp) (h2.mono fun p hp => .tail _ hp) (giv_none h3 nm_ne) (hsy.mono fun p hp => .tail _ hp) hz1 (hz2.mono fun p hp => .tail _ hp)) ?_) (by omega) leafP False.elim
    rintro r n ⟨tl, rfl, _, hd⟩
    obtain ⟨a, rfl⟩ := Ty.hin hd; rfl
  | @one d g opn hi c =>
    intro S v sc tc nn hS hsy hy hl hv hp
    obtain ⟨gv, op, kg, vs, nop, h1, h2, h3, h4, h5⟩ := hS
    refine Tel.mono (rexpr_one w v sc 12 (cel sp c tc nn :: S) S (fun p hp => .tail _ hp) _ False sy lim gv op sp hi h1 hv (const_one w lim (cel sp c tc nn :: S) v (hv.mono fun p hp => .tail _ hp) (hl.mono fun p hp => .tail _ hp)) ?_) (by omega) leafP False.elim
    rintro r n ⟨tl, rfl, _, hd⟩
    exact Ty.hin hd
  | @ng d g opn hi c e r he ih =>
    intro S v sc tc nn hS hsy hy hl hv hp
    refine Tel.mono (rexpr_ng w v sc (d + 28) (cel sp c tc nn :: S) S (fun p hp => .tail _ hp) (EvP S sp (mapT .ng r)) (mapT .ng r = none) e hv (fun t' ve hve => ?_) fun r n h => h.hin) (by omega) (fun r n h => ⟨n, fun p hp => hp, h⟩) id
    obtain ⟨ad, n, vs, rfl, hm⟩ := Ex.shape hve
    exact runary w ad sc sp (d + 26) (by omega) S c tc nn r t' hp (rvalue w (.ref ad) sc (d + 24) (by omega) _ _ _ (ih S (.ref ad) sc tc nn hS hsy hy hl hve hp) (fun r n h => h.dat) rfl)
  | @bi d g opn hi c p e e2 r r2 he he2 ih ih2 =>
    intro S v sc tc nn hS hsy hy hl hv hp
    refine Tel.mono (rexpr_bi w v sc (d + 28) (cel sp c tc nn :: S) S (fun p hp => .tail _ hp) _ _ p e e2 hv (fun t' vl vr hvl hvr => ?_) fun r n h => h.hin) (by omega) (fun r n h => ⟨n, fun p hp => hp, h⟩) id
    obtain ⟨al, n, vs, rfl, hm⟩ := Ex.shape hvl
    obtain ⟨ar, n2, vs2, rfl, hm2⟩ := Ex.shape hvr
    refine rbinary w p al ar sc sp (d + 26) (by omega) S c tc nn r r2 t' (rvalue w (.ref al) sc (d + 24) (by omega) _ _ _ (ih S (.ref al) sc tc nn hS hsy hy hl hvl hp) (fun r n h => h.dat) rfl) ?_
    intro t c' tl tc' nn' hr ho hof
    have sub : ∀ p ∈ S, p ∈ tl ++ S := fun p hp => List.mem_append_right _ hp
    exact rvalue w (.ref ar) sc (d + 24) (by omega) _ _ _ (ih2 t c' hr (tl ++ S) (.ref ar) sc tc' nn' (hS.mono sub) (hsy.mono sub) (hy.mono sub) (hl.mono sub) (hvr.mono sub) (List.forall_mem_append.mpr ⟨ho, hp⟩)) (fun r n h => h.dat) rfl
  | @rf d g opn hi c k a b rA rB ha hb hno hlen hok hz hhi hcA heB hgr ih ihB =>
    intro S v sc tc nn hS hsy hy hl hv hp
    have hS' := hS
    have hy' := hy
    obtain ⟨gv, op, kg, vs, nop, h1, h2, h3, h4, h5⟩ := hS'
    obtain ⟨⟨ax, vx, hx1, hx2⟩, _, hf⟩ := hy'
    obtain ⟨fa, tp, dl, nt, nl, tx, vb, e1, e2, e3, e4, e5⟩ := hf k b hb
    refine Tel.mono (rexpr_rf w v sc (d + 31) (cel sp c tc nn :: S) S (fun p hp => .tail _ hp) (EvP S sp (putRes opn hi b rA rB)) (putRes opn hi b rA rB = none) k a hv (fun t' al nl' va hal hva => ?_) fun r n h => h.hin) (by omega) (fun r n h => ⟨n, fun p hp => hp, h⟩) id
    obtain ⟨aa, na, vsa, rfl, hma⟩ := Ex.shape hva
    obtain ⟨ab, nb, vsb, rfl, hmb⟩ := Ex.shape e5
    have up : ∀ p ∈ S, p ∈ cel sp c tc nn :: S := fun p hp => .tail _ hp
    refine rref w sc sy lim gv op sp fa al hi (cel sp c tc nn :: S) kg kvs (fnm k.val) t' (.ref tp) (d + 29) (by omega) _ _ (h1.mono up) (h2.mono up) (giv_none h3 fun e => fnm_X k e.symm) (hsy.mono up) e1 (e2.mono up) (fun r n h => h.hin) ?_
    refine putin w sc sy lim gv op sp fa al ax tp dl hi c nop nt nl nl' S kg kvs (fnm k.val) vs opn tc tx nn (.ref aa) (.ref ab) vx b (d + 26) (by omega) rA rB h1 hl h2 h4 h5 hno hlen hok hsy hx1 hx2 e2 e3 e4 e5 hz hal hhi hp hcA ?_ ?_ hgr
    · intro S1 sub hp1
      exact rvalue w (.ref aa) sc (d + 24) (by omega) _ _ _ (ih S1 (.ref aa) sc tc nn (hS.mono sub) (hsy.mono sub) (hy.mono sub) (hl.mono sub) (hva.mono sub) hp1) (fun r n h => h.dat) rfl
    · intro S2 inn tA c1 tc' nn' hrA hov sub hp2 hS2
      exact rvalue w (.ref ab) inn (d + 24) (by omega) _ _ _ (ihB tA c1 hrA hov S2 (.ref ab) inn tc' nn' hS2 (hsy.mono sub) (hy.mono sub) (hl.mono sub) (e5.mono sub) hp2) (fun r n h => h.dat) rfl
/-- more frames do no harm -/
theorem Ev.more {bs : Fin 12 → Option Ex} {d : Nat} {g : Option Ty} {opn : List Str} {hi c : Nat} {e : Ex} {r : Option (Ty × Nat)} (n : Nat) (H : Ev bs d g opn hi c e r) : Ev bs (d + n) g opn hi c e r := by
  induction H with
  | nmX => exact .nmX
  | nmZ => exact .nmZ
  | one => exact .one
  | ng _ ih => rw [Nat.add_right_comm]; exact .ng ih
  | bi _ _ i1 i2 => rw [Nat.add_right_comm]; exact .bi i1 i2
  | rf _ h2 h3 h4 h5 h6 h7 h8 _ h10 i1 i2 => rw [Nat.add_right_comm]; exact .rf i1 h2 h3 h4 h5 h6 h7 h8 i2 h10
theorem Ev.le {bs : Fin 12 → Option Ex} {d d' : Nat} {g : Option Ty} {opn : List Str} {hi c : Nat} {e : Ex} {r : Option (Ty × Nat)} (h : d ≤ d') (H : Ev bs d g opn hi c e r) : Ev bs d' g opn hi c e r := by
  obtain ⟨n, rfl⟩ := Nat.le.dest h
  exact H.more n
theorem Ev.eq {bs : Fin 12 → Option Ex} {d d' : Nat} {g : Option Ty} {opn : List Str} {hi c : Nat} {e : Ex} {r r' : Option (Ty × Nat)} (H : Ev bs d g opn hi c e r) (h : d ≤ d') (he : r = r') : Ev bs d' g opn hi c e r' := he ▸ H.le h
/-- the names that stand open: each of a body from the n-th on -/
noncomputable def Opn (n : Nat) (opn : List Str) : Prop := opn.length + n ≤ 12 ∧ ∀ x ∈ opn, ∃ k : Fin 12, n ≤ k.val ∧ x = fnm k.val
theorem fnm_one : ∀ k k' : Fin 12, fnm k.val = fnm k'.val → k = k' := by decide +kernel
theorem fnm_fit : ∀ k : Fin 12, PyData.strOk (fnm k.val) = true := by decide +kernel
theorem Opn.nil {n : Nat} (h : n ≤ 12) : Opn n [] := ⟨by simpa using h, fun x hx => absurd hx List.not_mem_nil⟩
theorem Opn.any {n : Nat} {opn : List Str} (h : Opn n opn) {k : Fin 12} (hk : k.val < n) : opn.any (· == fnm k.val) = false := by
  rw [Bool.eq_false_iff]
  intro e
  obtain ⟨x, hx, e⟩ := List.any_eq_true.mp e
  obtain ⟨k', h1, rfl⟩ := h.2 x hx
  have := fnm_one k' k (eq_of_beq e)
  subst this
  omega
theorem Opn.snoc {n : Nat} {opn : List Str} (h : Opn (n + 1) opn) {k : Fin 12} (hk : k.val = n) : Opn n (opn ++ [fnm k.val]) := by
  refine ⟨by have := h.1; simp only [List.length_append, List.length_cons, List.length_nil]; omega, fun x hx => ?_⟩
  rcases List.mem_append.mp hx with hx | hx
  · obtain ⟨k', h1, e⟩ := h.2 x hx
    exact ⟨k', by omega, e⟩
  · exact ⟨k, by omega, by simpa using hx⟩
theorem Opn.len {n : Nat} {opn : List Str} (h : Opn n opn) : opn.length ≤ 100 := by have := h.1; omega
theorem Opn.str {n : Nat} {opn : List Str} (h : Opn n opn) : ∀ x ∈ opn, PyData.strOk x = true := fun x hx => by
  obtain ⟨k, _, rfl⟩ := h.2 x hx
  exact fnm_fit k
theorem cnt_cons {opn : List Str} (h : opn ≠ []) (c : Nat) : cnt opn c = c := if_neg h
theorem snoc_ne {opn : List Str} {x : Str} : opn ++ [x] ≠ [] := by simp
theorem one_fit : Ty.one.lev ≤ 100 ∧ Ty.one.nodes ≤ 10000 ∧ Ty.one.plus := ⟨by decide, by decide, trivial⟩
theorem askE_size (k : Fin 12) : ∀ m, (askE k m).size = m + 1
  | 0 => rfl
  | m + 1 => by rw [askE, Ex.size, askE_size k m]
theorem askE_hgt (k : Fin 12) : ∀ m, (askE k m).hgt = m + 1
  | 0 => rfl
  | m + 1 => by rw [askE, Ex.hgt, askE_hgt k m]
theorem putRes_one {opn : List Str} {hi p : Nat} {b : Ex} {rA : Option (Ty × Nat)} {t : Ty} {c : Nat} (e : putRes opn hi b rA (fun _ c' => if c' - 1 + p ≤ 200 then some (.one, c' - 1 + p) else none) = some (t, c)) : t = .one := by
  unfold putRes at e
  cases rA with
  | none => cases e
  | some x =>
    obtain ⟨tA, c1⟩ := x
    simp only [bindT] at e
    split at e
    · cases e
    · split at e
      · simp only [Option.some.injEq, Prod.mk.injEq] at e
        exact e.1.symm
      · cases e
noncomputable def lastE (es : List Ex) : Ex := (es[es.length - 1]?).getD .one
theorem lastE_app {es : List Ex} {b : Ex} : lastE (es ++ [b]) = b := by simp [lastE]
theorem Rep.small {es : List Ex} {p : Nat} (h : Rep es p) : (lastE es).size ≤ 4 ∧ (lastE es).hgt ≤ 4 := by
  cases h with
  | base => exact ⟨by decide, by decide⟩
  | step _ _ h3 _ => rw [lastE_app, askE_size, askE_hgt]; omega
theorem at_last {full es : List Ex} (h : ∃ r, es ++ r = full) (hl : 1 ≤ es.length) : full[es.length - 1]? = some (lastE es) := by
  obtain ⟨r, rfl⟩ := h
  rw [List.getElem?_append_left (by omega), lastE, List.getElem?_eq_getElem (by omega)]
  rfl
theorem pre_of {full es : List Ex} {b : Ex} (h : ∃ r, es ++ [b] ++ r = full) : ∃ r, es ++ r = full := by
  obtain ⟨r, rfl⟩ := h
  exact ⟨_, (List.append_assoc _ _ _).symm⟩
/-- the repeated bodies -/
theorem rep_ev {full : List Ex} {es : List Ex} {p : Nat} (R : Rep es p) : (∃ r, es ++ r = full) → ∀ {opn : List Str} {hi c : Nat} {tA : Ty}, Opn (es.length - 1) opn → opn ≠ [] → hi + 4 * es.length ≤ 104 → 1 ≤ c → c ≤ 200 →
    Ev (fun k => full[k.val]?) (27 * es.length) (some tA) opn hi c (lastE es) (if c - 1 + p ≤ 200 then some (.one, c - 1 + p) else none) := by
  induction R with
  | base =>
    intro _ opn hi c tA _ _ _ h1 h2
    rw [if_pos (by omega), show c - 1 + 1 = c by omega]
    exact .one
  | @step es p t R h1 h2 h3 ih =>
    intro hp opn hi c tA hO hn hh hc1 hc2
    have hl := R.len
    have hp := pre_of hp
    have hb := R.small
    rw [List.length_append, List.length_singleton, Nat.add_sub_cancel] at hO
    rw [List.length_append, List.length_singleton] at hh
    rw [lastE_app, List.length_append, List.length_singleton]
    have hk : (fk (es.length - 1)).val = es.length - 1 := fk_val (by omega)
    have key : ∀ m, Ev (fun k => full[k.val]?) (27 * es.length + 9 * m) (some tA) opn hi c (askE (fk (es.length - 1)) m) (if c + m * p ≤ 200 then some (if m = 0 then tA else .one, c + m * p) else none) := by
      intro m
      induction m with
      | zero => rw [Nat.zero_mul, Nat.add_zero, Nat.add_zero, if_pos hc2, if_pos rfl]; exact .nmX
      | succ m im =>
        have hpos := R.puts.1
        have e9 : (m + 1) * p = m * p + p := Nat.succ_mul m p
        refine (Ev.rf (d := 27 * es.length + 9 * m) (rB := fun _ c' => if c' - 1 + p ≤ 200 then some (.one, c' - 1 + p) else none) im (show full[(fk (es.length - 1)).val]? = some (lastE es) by rw [hk]; exact at_last hp hl.1) (hO.any (by rw [hk]; omega)) hO.len hO.str (by omega) (by omega) ?_ ?_ ?_).eq (by omega) ?_
        · intro t' c' e
          split at e
          · simp only [Option.some.injEq, Prod.mk.injEq] at e; omega
          · cases e
        · intro t' c' e ho
          rw [cnt_cons hn]
          have ho : ¬ (c' + 1 > 200 ∨ hi + (lastE es).hgt > 100) := by
            have q := of_decide_eq_false ho
            rwa [cnt_cons hn] at q
          refine (ih hp (Opn.snoc (n := es.length - 1) (by rwa [show es.length - 1 + 1 = es.length by omega]) hk) snoc_ne (by omega) (by omega) (by omega)).le (by omega)
        · intro t' c' e
          rw [putRes_one e]
          exact one_fit
        · unfold putRes
          by_cases q : c + m * p ≤ 200
          · rw [if_pos q, bindT, cnt_cons hn]
            by_cases q2 : c + m * p + 1 > 200
            · rw [if_pos (by rw [overB, cnt_cons hn]; exact decide_eq_true (.inl q2)), if_neg (by omega)]
            · rw [if_neg (by rw [overB, cnt_cons hn]; simp only [decide_eq_true_eq]; omega), e9, if_neg (Nat.succ_ne_zero m)]
              have e8 : c + m * p + 1 - 1 + p = c + (m * p + p) := by omega
              show (if c + m * p + 1 - 1 + p ≤ 200 then some (Ty.one, c + m * p + 1 - 1 + p) else none) = _
              rw [e8]
          · rw [if_neg q, bindT, if_neg (by omega)]
    have e9 : c - 1 + (1 + t * p) = c + t * p := by omega
    rw [e9]
    have q := key t
    rw [if_neg (show ¬ t = 0 by omega)] at q
    exact q.le (by omega)
theorem rep_top {es : List Ex} {p c : Nat} (R : Rep es p) (hc : c ≤ 200) : Ev (fun k => es[k.val]?) 609 none [] 0 c (baseE es.length) (if p ≤ 200 then some (.one, p) else none) := by
  have hl := R.len
  have hb := R.small
  have hk : (fk (es.length - 1)).val = es.length - 1 := fk_val (by omega)
  refine (Ev.rf (d := 27 * es.length) (rA := some (.var, c)) (rB := fun _ c' => if c' - 1 + p ≤ 200 then some (.one, c' - 1 + p) else none) .nmZ (show es[(fk (es.length - 1)).val]? = some (lastE es) by rw [hk]; exact at_last ⟨[], List.append_nil _⟩ hl.1) rfl (Nat.zero_le _) (fun x hx => absurd hx List.not_mem_nil) (by omega) (by omega) ?_ ?_ ?_).eq (by omega) ?_
  · intro t' c' e
    simp only [Option.some.injEq, Prod.mk.injEq] at e; omega
  · intro t' c' e ho
    exact rep_ev R ⟨[], List.append_nil _⟩ (Opn.snoc (n := es.length - 1) (Opn.nil (by omega)) hk) snoc_ne (by omega) (by show 1 ≤ 0 + 1; omega) (by show 0 + 1 ≤ 200; omega)
  · intro t' c' e
    rw [putRes_one e]
    exact one_fit
  · rw [putRes, bindT, if_neg (by rw [overB]; simp only [decide_eq_true_eq]; show ¬ (0 + 1 > 200 ∨ 0 + (lastE es).hgt > 100); omega)]
    show (if 0 + 1 - 1 + p ≤ 200 then some (Ty.one, 0 + 1 - 1 + p) else none) = _
    rw [show 0 + 1 - 1 + p = p by omega]
/-- wraps -/
theorem bel_ev {bs : Fin 12 → Option Ex} {d : Nat} {g : Option Ty} {opn : List Str} {hi c : Nat} {e : Ex} {r : Option (Ty × Nat)} (H : Ev bs d g opn hi c e r) : ∀ w, Ev bs (d + 6 * w) g opn hi c (belE w e) (mapT (belT w) r)
  | 0 => by
    refine H.eq (by omega) ?_
    cases r with
    | none => rfl
    | some x => rfl
  | w + 1 => by
    have ih := bel_ev H w
    rw [belE]
    split
    · refine (Ev.ng ih).eq (by omega) ?_
      cases r with
      | none => rfl
      | some x => obtain ⟨t, c'⟩ := x; simp only [mapT, belT]; rw [if_pos (by assumption)]
    · refine (Ev.bi (r2 := fun c' => some (.one, c')) ih fun _ _ _ => .one).eq (by omega) ?_
      cases r with
      | none => rfl
      | some x => obtain ⟨t, c'⟩ := x; simp only [mapT, belT, bindT]; rw [if_neg (by assumption)]
theorem belE_hgt {e : Ex} (he : 1 ≤ e.hgt) : ∀ w, (belE w e).hgt = w + e.hgt
  | 0 => by rw [belE]; omega
  | w + 1 => by
    have ih := belE_hgt he w
    rw [belE]
    split
    · rw [Ex.hgt]; omega
    · rw [Ex.hgt, Ex.hgt]; omega
theorem belE_size {e : Ex} : ∀ w, (belE w e).size ≤ 2 * w + e.size
  | 0 => by rw [belE]; omega
  | w + 1 => by
    have ih := belE_size (e := e) w
    rw [belE]
    split
    · rw [Ex.size]; omega
    · rw [Ex.size, Ex.size]; omega
theorem belT_fit {t : Ty} : ∀ w, (belT w t).lev = w + t.lev ∧ (belT w t).nodes ≤ 2 * w + t.nodes ∧ (t.plus → (belT w t).plus)
  | 0 => by rw [belT]; exact ⟨by omega, by omega, id⟩
  | w + 1 => by
    obtain ⟨i1, i2, i3⟩ := belT_fit (t := t) w
    have := t.lev_pos
    rw [belT]
    split
    · exact ⟨by rw [Ty.lev]; omega, by rw [Ty.nodes]; omega, i3⟩
    · exact ⟨by rw [Ty.lev, Ty.lev]; omega, by rw [Ty.nodes, Ty.nodes]; omega, fun h => ⟨rfl, i3 h, trivial⟩⟩
theorem Hea.fit {es : List Ex} {h : Nat} {t : Ty} (H : Hea es h t) : t.lev + es.length ≤ h + 1 ∧ t.nodes ≤ 2 * h + 1 ∧ t.plus := by
  induction H with
  | base => exact ⟨by decide, by decide, trivial⟩
  | @step es h wr t H h1 h2 ih =>
    obtain ⟨i1, i2, i3⟩ := ih
    obtain ⟨j1, j2, j3⟩ := belT_fit (t := t) wr
    have : 1 ≤ coreH es.length := by unfold coreH; split <;> omega
    rw [List.length_append, List.length_singleton]
    exact ⟨by omega, by omega, j3 i3⟩
theorem Hea.nil_inv {es : List Ex} {h : Nat} {t : Ty} (H : Hea es h t) (e : es = []) : h = 0 ∧ t = .var := by
  cases H with
  | base => exact ⟨rfl, rfl⟩
  | step _ _ _ => simp at e
theorem coreE_hgt (k : Nat) : (coreE k).hgt = coreH k := by unfold coreE coreH; split <;> rfl
theorem coreE_size (k : Nat) : (coreE k).size ≤ 2 := by unfold coreE; split <;> simp [Ex.size]
/-- a reference to the last of the heaped bodies -/
theorem hea_ev {full : List Ex} {es : List Ex} {h : Nat} {t : Ty} (H : Hea es h t) : (∃ r, es ++ r = full) → 1 ≤ es.length → ∀ {g : Option Ty} {opn : List Str} {hi c : Nat} {a : Ex}, Opn es.length opn → hi ≤ 100 → cnt opn c + es.length ≤ 200 → c ≤ 200 → (∀ d, Ev (fun k => full[k.val]?) d g opn hi c a (some (.var, c))) →
    Ev (fun k => full[k.val]?) (609 - 6 * hi) g opn hi c (.rf (fk (es.length - 1)) a) (if hi + h ≤ 100 then some (t, cnt opn c + es.length) else none) := by
  induction H with
  | base => intro _ h; exact absurd h (by decide)
  | @step es h wr t H h1 h2 ih =>
    intro hp _ g opn hi c a hO hh hc hc2 ha
    have hb := at_last hp (by simp)
    have hp' := pre_of hp
    have fit := (Hea.step H h1 h2).fit
    rw [lastE_app] at hb
    rw [List.length_append, List.length_singleton, Nat.add_sub_cancel] at hb
    rw [List.length_append, List.length_singleton] at hO hc fit
    rw [List.length_append, List.length_singleton, Nat.add_sub_cancel]
    have hk : (fk es.length).val = es.length := fk_val (by omega)
    have hg : (belE wr (coreE es.length)).hgt = wr + coreH es.length := by
      rw [belE_hgt (by rw [coreE_hgt]; unfold coreH; split <;> omega), coreE_hgt]
    have hs := belE_size (e := coreE es.length) wr
    have hs2 := coreE_size es.length
    have hcc : cnt (opn ++ [fnm (fk es.length).val]) (cnt opn c + 1) = cnt opn c + 1 := cnt_cons snoc_ne _
    refine (Ev.rf (d := 600 - 6 * hi) (rB := fun _ c' => if hi + (h + (wr + coreH es.length)) ≤ 100 then some (belT wr t, c' + es.length) else none) (ha _) (show full[(fk es.length).val]? = some _ by rw [hk]; exact hb) (hO.any (by rw [hk]; omega)) hO.len hO.str (by omega) (by omega) ?_ ?_ ?_).eq (by omega) ?_
    · intro t' c' e
      simp only [Option.some.injEq, Prod.mk.injEq] at e; omega
    · intro t' c' e ho
      simp only [Option.some.injEq, Prod.mk.injEq] at e
      obtain ⟨rfl, rfl⟩ := e
      have ho : ¬ (cnt opn c + 1 > 200 ∨ hi + (wr + coreH es.length) > 100) := by
        have q := of_decide_eq_false ho
        rwa [hg] at q
      rw [hg]
      have core : Ev (fun k => full[k.val]?) (if es.length = 0 then 0 else 609 - 6 * (hi + (wr + coreH es.length))) (some .var) (opn ++ [fnm (fk es.length).val]) (hi + (wr + coreH es.length)) (cnt opn c + 1) (coreE es.length) (if hi + (wr + coreH es.length) + h ≤ 100 then some (t, cnt opn c + 1 + es.length) else none) := by
        by_cases q : es.length = 0
        · have q' := List.eq_nil_of_length_eq_zero q
          subst q'
          obtain ⟨rfl, rfl⟩ := H.nil_inv rfl
          exact Ev.nmX.eq (d := 0) (Nat.zero_le _) (by rw [if_pos (by omega)]; rfl)
        · rw [if_neg q, coreE, if_neg q]
          refine (ih hp' (by omega) (Opn.snoc (n := es.length) hO hk) (by omega) (by rw [hcc]; omega) (by omega) (fun d => .nmX)).eq (Nat.le_refl _) (by rw [hcc])
      refine (bel_ev core wr).eq ?_ ?_
      · unfold coreH at *
        by_cases q : es.length = 0
        · rw [if_pos q]; omega
        · rw [if_neg q]; rw [if_neg q] at ho ⊢; omega
      · by_cases q : hi + (h + (wr + coreH es.length)) ≤ 100
        · rw [if_pos q, if_pos (by omega)]; rfl
        · rw [if_neg q, if_neg (by omega)]; rfl
    · intro t' c' e
      rw [putRes, bindT] at e
      split at e
      · cases e
      · split at e
        · simp only [Option.some.injEq, Prod.mk.injEq] at e
          obtain ⟨rfl, _⟩ := e
          exact ⟨by omega, by omega, fit.2.2⟩
        · cases e
    · rw [putRes, bindT]
      by_cases q : hi + (wr + coreH es.length) > 100
      · rw [if_pos (by rw [overB, hg]; exact decide_eq_true (.inr q)), if_neg (by omega)]
      · rw [if_neg (by rw [overB, hg]; simp only [decide_eq_true_eq]; omega)]
        by_cases q2 : hi + (h + (wr + coreH es.length)) ≤ 100
        · rw [if_pos q2, if_pos q2, Nat.add_assoc, Nat.add_comm 1]
        · rw [if_neg q2, if_neg q2]
theorem hea_top {es : List Ex} {h : Nat} {t : Ty} (H : Hea es h t) (hl : 1 ≤ es.length) : Ev (fun k => es[k.val]?) 609 none [] 0 0 (baseE es.length) (if h ≤ 100 then some (t, es.length) else none) := by
  have q := hea_ev (full := es) H ⟨[], List.append_nil _⟩ hl (g := none) (opn := []) (hi := 0) (c := 0) (a := .nm true) (Opn.nil (by have := H.len; omega)) (by omega) (by show 0 + _ ≤ _; have := H.len; omega) (by omega) (fun d => .nmZ)
  refine q.eq (by omega) ?_
  rw [Nat.zero_add]
  show (if _ then some (t, 0 + es.length) else _) = _
  rw [Nat.zero_add]
theorem first_ev {es : List Ex} {b : Ex} {f : Ty} {c : Nat} (hb : es[0]? = some b) (hf : First b f) (hc : c ≤ 200) : Ev (fun k => es[k.val]?) 609 none [] 0 c (.rf (fk 0) (.nm true)) (some (f, 1)) := by
  have main : ∀ d, b.size ≤ 10000 → b.hgt ≤ 100 → f.lev ≤ 100 → f.nodes ≤ 10000 → f.plus → Ev (fun k => es[k.val]?) d (some .var) ([] ++ [fnm (fk 0).val]) (0 + b.hgt) (0 + 1) b (some (f, 0 + 1)) → d + 9 ≤ 609 → Ev (fun k => es[k.val]?) 609 none [] 0 c (.rf (fk 0) (.nm true)) (some (f, 1)) := by
    intro d h1 h2 h3 h4 h5 h6 h7
    refine (Ev.rf (d := d) (rA := some (.var, c)) (rB := fun _ c' => some (f, c')) .nmZ (show es[(fk 0).val]? = some b from hb) rfl (Nat.zero_le _) (fun x hx => absurd hx List.not_mem_nil) h1 (by omega) ?_ ?_ ?_).eq h7 ?_
    · intro t' c' e
      simp only [Option.some.injEq, Prod.mk.injEq] at e; omega
    · intro t' c' e ho
      simp only [Option.some.injEq, Prod.mk.injEq] at e
      obtain ⟨rfl, rfl⟩ := e
      exact h6
    · intro t' c' e
      rw [putRes, bindT] at e
      split at e
      · cases e
      · simp only [Option.some.injEq, Prod.mk.injEq] at e
        obtain ⟨rfl, _⟩ := e
        exact ⟨h3, h4, h5⟩
    · rw [putRes, bindT, if_neg (by rw [overB]; simp only [decide_eq_true_eq]; show ¬ (0 + 1 > 200 ∨ 0 + b.hgt > 100); omega)]
      rfl
  rcases hf with ⟨rfl, rfl⟩ | ⟨wr, hw, rfl, rfl⟩
  · exact main 0 (by decide) (by decide) (by decide) (by decide) trivial .one (by omega)
  · obtain ⟨f1, f2, f3⟩ := belT_fit (t := .var) wr
    have e1 : (Ex.nm false).hgt = 1 := rfl
    have e2 : (Ex.nm false).size = 1 := rfl
    have e3 : Ty.var.lev = 1 := rfl
    have e4 : Ty.var.nodes = 1 := rfl
    have g1 := belE_size (e := .nm false) wr
    have g2 := belE_hgt (e := .nm false) (by decide) wr
    exact main (0 + 6 * wr) (by omega) (by omega) (by omega) (by omega) (f3 trivial) (bel_ev .nmX wr) (by omega)
theorem Rep.first {es : List Ex} {p : Nat} (R : Rep es p) : ∃ b f, es[0]? = some b ∧ First b f := by
  induction R with
  | base => exact ⟨_, _, rfl, .inl ⟨rfl, rfl⟩⟩
  | step R _ _ _ ih =>
    obtain ⟨b, f, h1, h2⟩ := ih
    exact ⟨b, f, by rw [List.getElem?_append_left R.len.1]; exact h1, h2⟩
theorem Hea.first {es : List Ex} {h : Nat} {t : Ty} (H : Hea es h t) (hl : 1 ≤ es.length) : ∃ b f, es[0]? = some b ∧ First b f := by
  induction H with
  | base => exact absurd hl (by decide)
  | @step es h wr t H h1 h2 ih =>
    cases es with
    | nil => exact ⟨_, _, rfl, .inr ⟨wr, h1, rfl, rfl⟩⟩
    | cons e r =>
      obtain ⟨b, f, h1, h2⟩ := ih (by simp)
      exact ⟨b, f, by simpa using h1, h2⟩
theorem First.lev {b : Ex} {f : Ty} (h : First b f) : f.lev ≤ 61 := by
  rcases h with ⟨_, rfl⟩ | ⟨wr, hw, _, rfl⟩
  · decide
  · have q := (belT_fit (t := .var) wr).1
    have e : Ty.var.lev = 1 := rfl
    omega
/-- the law's tree, from what its base and the first body answer -/
theorem way_ev {es : List Ex} {due due' : Option Ty} {x : Int} {r : Option (Ty × Nat)} (H : Ev (fun k => es[k.val]?) 609 none [] 0 0 (baseE es.length) r) (hr : due = r.map (·.1)) (hc : ∀ t c, r = some (t, c) → c ≤ 200 ∧ t.lev ≤ 100) (hw : WayD es due x due') :
    ∃ r', Ev (fun k => es[k.val]?) 615 none [] 0 0 (wayE es.length x) r' ∧ due' = r'.map (·.1) ∧ ∀ t c, r' = some (t, c) → t.lev ≤ 102 := by
  rcases hw with ⟨rfl, rfl⟩ | ⟨rfl, b, f, hb, hf, rfl⟩ | ⟨h1, h2, rfl⟩
  · refine ⟨_, (Ev.ng H).eq (Nat.le_refl _) rfl, ?_⟩
    subst hr
    cases r with
    | none => exact ⟨rfl, fun _ _ e => nomatch e⟩
    | some y =>
      obtain ⟨t, c⟩ := y
      refine ⟨rfl, fun _ _ e => ?_⟩
      cases e
      have := (hc _ _ rfl).2
      rw [Ty.lev]; omega
  · refine ⟨_, (Ev.bi (p := false) (r2 := fun _ => some (f, 1)) H fun t c' e => first_ev hb hf (hc _ _ e).1).eq (Nat.le_refl _) rfl, ?_⟩
    subst hr
    cases r with
    | none => exact ⟨rfl, fun _ _ e => nomatch e⟩
    | some y =>
      obtain ⟨t, c⟩ := y
      refine ⟨rfl, fun _ _ e => ?_⟩
      cases e
      have := (hc _ _ rfl).2
      have := hf.lev
      rw [Ty.lev]; omega
  · refine ⟨r, ?_, hr, fun t c e => ?_⟩
    · rw [wayE, if_neg h1, if_neg h2]
      exact H.le (by omega)
    · have := (hc _ _ e).2; omega
/-- what the law has built, and what is due -/
noncomputable def Plan (es : List Ex) (due : Option Ty) : Prop :=
  (∃ p, Rep es p ∧ due = if p ≤ 200 then some .one else none) ∨ (∃ h ty, Hea es h ty ∧ 1 ≤ es.length ∧ due = if h ≤ 100 then some ty else none)
noncomputable def DueAt (S : List (Addr × Obj)) (v : Value) : Option Ty → Prop
  | some t => DatIn (kone ++ S) v t.dat
  | none => v = .none
theorem DueAt.mono {S S' : List (Addr × Obj)} {v : Value} (h : ∀ p ∈ S, p ∈ S') : ∀ {d : Option Ty}, DueAt S v d → DueAt S' v d
  | none, e => e
  | some _, e => DatIn.mono (news := kone ++ S) (news' := kone ++ S') (fun p hp => (List.mem_append.mp hp).elim (fun q => List.mem_append_left _ q) fun q => List.mem_append_right _ (h p q)) e
theorem Plan.len {es : List Ex} {due : Option Ty} (h : Plan es due) : 1 ≤ es.length ∧ es.length ≤ 12 := by
  rcases h with ⟨p, h, _⟩ | ⟨h, t, H, l, _⟩
  · exact h.len
  · exact ⟨l, by have := H.len; omega⟩
theorem ints_cons {ws : List Value} {n : Int} {ns : List Int} (h : IntsAre ws (n :: ns)) : ∃ t vs, ws = .int n t :: vs ∧ IntsAre vs ns := by
  cases h; exact ⟨_, _, rfl, ‹_›⟩
/-- where both roads of the law meet -/
noncomputable def Mid2 (h₀ : Heap) (L : Addr) (m₀ : Str → Option Value) (j : Addr) (jvs : List Value) (s : Shared) (f : Flow) (s' : Shared) : Prop :=
  ∃ c' t' n' bl nb vs dv es due rest h' tk', f = .next ∧ s' = { s with heap := h', toks := tk' } ∧ Fr h₀ L h' (fun y => if y = Str.ofString "due" then some dv else if y = Str.ofString "bodies" then some (.ref bl) else m₀ y) ∧
    News h₀ L h' ((j, listOf (.int c' t' :: jvs).toArray n') :: rest) ∧ (∀ p ∈ rest, p.1 ≠ j) ∧ (bl, listOf vs.toArray nb) ∈ rest ∧ DatAll rest vs (es.map Ex.dat) ∧ Plan es due ∧ DueAt rest dv due ∧ 0 ≤ c' ∧ c' ≤ 41
theorem join2 {M : Model} {A : Around} {E : Value → Shared → Prop} {s : Shared} {h₀ : Heap} {L j : Addr} {m₀ : Str → Option Value} {jvs : List Value} {t : Sem Flow} {Q : Flow → Shared → Prop}
    (F : Fr h₀ L s.heap m₀) (h1 : wpAny M A t (Mid2 h₀ L m₀ j jvs s) E s)
    (h2 : ∀ c' t' n' bl nb vs dv es due rest h' tk', Fr h₀ L h' (fun y => if y = Str.ofString "due" then some dv else if y = Str.ofString "bodies" then some (.ref bl) else m₀ y) →
      News h₀ L h' ((j, listOf (.int c' t' :: jvs).toArray n') :: rest) → (∀ p ∈ rest, p.1 ≠ j) → (bl, listOf vs.toArray nb) ∈ rest → DatAll rest vs (es.map Ex.dat) → Plan es due → DueAt rest dv due → 0 ≤ c' → c' ≤ 41 → Q .next { s with heap := h', toks := tk' }) :
    wpAny M A t Q E s := by
  refine wpAny_mono h1 ?_ fun _ _ x => x
  rintro f s' ⟨c', t', n', bl, nb, vs, dv, es, due, rest, h', tk', rfl, rfl, a1, a2, a3, a4, a5, a6, a7, a8, a9⟩
  exact h2 c' t' n' bl nb vs dv es due rest h' tk' a1 a2 a3 a4 a5 a6 a7 a8 a9
theorem name1 {P : Prop} {h₀ h : Heap} {L a : Addr} {o : Obj} {l : List (Addr × Obj)} (N : News h₀ L h ((a, o) :: l)) (k : ∀ j, j = a → P) : P := k a rfl
theorem below_norm {h₀ h : Heap} {L : Addr} {m : Str → Option Value} (_ : Fr h₀ L h m) : Below callerA h₀ [] h₀ := below_caller h₀
theorem tel_law {w : World} {f : Addr} {vs : List Value} {fr : Nat} {news : List (Addr × Obj)} {Post : Value → List (Addr × Obj) → Prop} {Exc : Prop} {mean : ExcName → Option Value} {mg mb : Str → Option Value} {cn : Str} {cs : Scope} {a : Addr} {ccd : Value} {h₀ : Heap} {L : Addr} {m : Str → Option Value} {s : Shared}
    {Q E : Value → Shared → Prop} (F : Fr h₀ L s.heap m) (X : (hd.heap_39 w.params).In h₀) (T : Top hd.view_39 Lo mean mg mb h₀) (hk : cs.kind = .function) (N : News h₀ L s.heap news) (C : Tel w f vs fr news Post Exc)
    (hd : 302 + fr < recursionLimit) (hu : 7 + 8 * fr < cLine)
    (ret : ∀ r news' h' tk', Fr h₀ L h' m → News h₀ L h' news' → Post r news' → Q r { s with heap := h', toks := tk' })
    (exc : Exc → ∀ e h' tk', Flies h₀ (envOf cn cs L a ccd :: []) h₀ L m e h' → E (.ref e) { s with heap := h', toks := tk' }) :
    wpAny (model Challenge.rw_pq0356_01.row.prog w) (callerA.deeper (envOf cn cs L a ccd)) (call (.ref f) vs) Q E s := by
  have h : callerA.deeper (envOf cn cs L a ccd) = ktrTop 302 7 (some []) cn cs L a ccd [] [] := by
    have e : callerA.depth = 301 := by decide +kernel
    show ({ handled := none, depth := callerA.depth + 1, frames := some [envOf cn cs L a ccd], guards := some [], units := 7 } : Around) = _
    rw [e]; rfl
  rw [h]
  exact C _ _ _ _ _ _ _ _ _ _ _ _ _ _ _ _ _ _ _ _ (below_caller h₀) F X N T hk hd hu ret exc
theorem DueAt.hand {S : List (Addr × Obj)} {v : Value} : ∀ {d : Option Ty}, DueAt S v d → handedIn v = true
  | none, e => by rw [show v = .none from e]; rfl
  | some _, e => DatIn.handed (news := kone ++ S) e
theorem due_rep {S : List (Addr × Obj)} {v : Value} {p : Nat} (h : v = if p ≤ 200 then .ref 330 else .none) : DueAt S v (if p ≤ 200 then some .one else none) := by
  subst h
  split
  · exact kone_at
  · rfl
theorem due_hea {S : List (Addr × Obj)} {v : Value} {h : Nat} {ty : Ty} (g : (h ≤ 100 ∧ DatIn (kone ++ S) v ty.dat) ∨ (¬ h ≤ 100 ∧ v = .none)) : DueAt S v (if h ≤ 100 then some ty else none) := by
  rcases g with ⟨a, b⟩ | ⟨a, b⟩
  · rw [if_pos a]; exact b
  · rw [if_neg a]; exact b
theorem len_at {prog : Program} {w : World} {A : Around} {E : Value → Shared → Prop} {s : Shared} {h₀ : Heap} {L D : Addr} {news : List (Addr × Obj)} {vs : List Value} {c k : Nat} {Q : Value → Shared → Prop}
    (N : News h₀ L s.heap news) (hm : (D, listOf vs.toArray c) ∈ news) (hl : k = vs.length) (hk : k ≤ 100) (h : Q (.int (k : Int) (s.toks + 1)) { s with toks := s.toks + 1 + 1 }) : wpAny (model prog w) A (call (.builtin "len") [.ref D]) Q E s := by
  subst hl
  exact KM.len_K (n := vs.length) N hm (by simp) (by omega) h
theorem fault_named (P : Params) : nsIn (hd.heap_39 P) mainGlobals "CheckFault" = some (some (.ref 44)) := by rfl
section
variable {w : World} {A₀ : Around} {E : Value → Shared → Prop} {s' : Shared} {h₀ : Heap} {outer : List Env} {L a e : Addr} {m : Str → Option Value} {name : Str} {scope : Scope} {cd : Value}
  {b₀ : Stmt} {suite : List Stmt} {pos np : Pos} {rest : List ExceptHandler} {Q : Flow → Shared → Prop} {mean : ExcName → Option Value} {mg mb : Str → Option Value}
/-- the clause that catches an own CheckFault -/
theorem caught_fault (K : Below A₀ h₀ outer h₀) (R : Flies h₀ (envOf name scope L a cd :: outer) h₀ L m e s'.heap) (X : (hd.heap_39 w.params).In h₀) (T : Top hd.view_39 Lo mean mg mb h₀)
    (k : ∀ h', Fr h₀ L h' m → wpAny (model PR w) ((A₀.deeper (envOf name scope L a cd)).mark (some (.ref e))) (execs (b₀ :: suite) (envOf name scope L a cd)) Q E { s' with heap := h' })
    (hk : scope.kind = .function := by rfl) (hx : (envOf name scope L a cd).kindOf (Str.ofString "CheckFault") = some .globalImplicit := by rfl)
    (hE : PassesOwnAt (model PR w) ((A₀.deeper (envOf name scope L a cd)).mark (some (.ref e))) (A₀.deeper (envOf name scope L a cd)) (envOf name scope L a cd) E := by passes_own) :
    wpAny (model PR w) (A₀.deeper (envOf name scope L a cd)) (noteFrame (.ref e) (envOf name scope L a cd))
      (fun _ s₂ => wpAny (model PR w) (A₀.deeper (envOf name scope L a cd)) (setFlight (.ref e) none) (fun _ s₃ =>
        wpAny (model PR w) (A₀.deeper (envOf name scope L a cd)) (handleBy (.ref e) (envOf name scope L a cd) (.ExceptHandler (some (.Name (Str.ofString "CheckFault") np)) none (b₀ :: suite) pos :: rest)) Q E s₃) E s₂) E s' := by
  obtain ⟨g, F, hsm, B, a0, hB, hl, hfl⟩ := R
  refine wpAny_looks_onW (Around.frames_deeper K.stack) rfl hfl fun h₄ hheld₄ hsm₄ => ?_
  refine wpAny_landsW hheld₄ fun h₅ hheld hsm₅' => ?_
  have hsm₅ := hsm₄.trans hsm₅'
  have hheld' := flyingW_base hB hheld
  have F₅ := F.of_stays hheld'.1 (hsm.trans hsm₅)
  obtain ⟨ob, hob, hobc⟩ := hheld'.there
  refine wpAny_handleBy_cons (codeAny_handlers_test ?_) (by intro q; cases q)
  refine Calls.Name_function_global hk hx (Calls.loadGlobal_global (env := envOf name scope L a cd) (T.g.keeps F₅.keep) (mg_of X T.g (fault_named _)) ?_) (by decide)
  have hC : h₅.get? 44 = some faultCls := (X.keeps F₅.keep) _ _ (fault_look _)
  obtain ⟨hp, g', d', tk, os⟩ := s'
  refine wpAny_excMatches_sub_self hC hob hobc (by decide) (codeAny_handlers_suite ?_)
  refine lands_againW hheld fun h₆ hfl₆ hsm₆ => ?_
  have F₆ := F.of_stays (flyingW_base hB hfl₆).1 ((hsm.trans hsm₅).trans hsm₆)
  exact wpAny_passesOwnAt hE (k h₆ F₆)
end
theorem fr_same {h₀ h : Heap} {L : Addr} {m : Str → Option Value} {n : Str} {v : Value} (F : Fr h₀ L h m) (e : m n = some v) : Fr h₀ L h (fun y => if y = n then some v else m y) := by
  have q : (fun y => if y = n then some v else m y) = m := by
    funext y
    by_cases h : y = n
    · subst h; simp [e]
    · simp [h]
  rw [q]; exact F
/-- where the roads of the first choice meet -/
noncomputable def Mid3 (h₀ : Heap) (L : Addr) (m₀ : Str → Option Value) (S : List (Addr × Obj)) (n : Nat) (x : Int) (s : Shared) (f : Flow) (s' : Shared) : Prop :=
  ∃ tv S' h' tk', f = .next ∧ s' = { s with heap := h', toks := tk' } ∧ Fr h₀ L h' (fun y => if y = Str.ofString "tree" then some tv else m₀ y) ∧ News h₀ L h' S' ∧ (∀ p ∈ S, p ∈ S') ∧ DatIn S' tv (wayE n x).dat
theorem join3 {M : Model} {A : Around} {E : Value → Shared → Prop} {s : Shared} {h₀ : Heap} {L : Addr} {m₀ : Str → Option Value} {S : List (Addr × Obj)} {n : Nat} {x : Int} {t : Sem Flow} {Q : Flow → Shared → Prop}
    (F : Fr h₀ L s.heap m₀) (h1 : wpAny M A t (Mid3 h₀ L m₀ S n x s) E s)
    (h2 : ∀ tv S' h' tk', Fr h₀ L h' (fun y => if y = Str.ofString "tree" then some tv else m₀ y) → News h₀ L h' S' → (∀ p ∈ S, p ∈ S') → DatIn S' tv (wayE n x).dat → Q .next { s with heap := h', toks := tk' }) :
    wpAny M A t Q E s := by
  refine wpAny_mono h1 ?_ fun _ _ x => x
  rintro f s' ⟨tv, S', h', tk', rfl, rfl, a1, a2, a3, a4⟩
  exact h2 tv S' h' tk' a1 a2 a3 a4
/-- where the roads of the second choice meet -/
noncomputable def Mid4 (h₀ : Heap) (L : Addr) (m₀ : Str → Option Value) (S : List (Addr × Obj)) (es : List Ex) (due : Option Ty) (x : Int) (s : Shared) (f : Flow) (s' : Shared) : Prop :=
  ∃ dv u due' S' h' tk', f = .next ∧ s' = { s with heap := h', toks := tk' } ∧ Fr h₀ L h' (fun y => if y = Str.ofString "due" then some dv else if y = Str.ofString "first" then u else m₀ y) ∧ News h₀ L h' S' ∧ (∀ p ∈ S, p ∈ S') ∧ WayD es due x due' ∧ DueAt S' dv due'
theorem join4 {M : Model} {A : Around} {E : Value → Shared → Prop} {s : Shared} {h₀ : Heap} {L : Addr} {m₀ : Str → Option Value} {S : List (Addr × Obj)} {es : List Ex} {due : Option Ty} {x : Int} {t : Sem Flow} {Q : Flow → Shared → Prop}
    (F : Fr h₀ L s.heap m₀) (h1 : wpAny M A t (Mid4 h₀ L m₀ S es due x s) E s)
    (h2 : ∀ dv u due' S' h' tk', Fr h₀ L h' (fun y => if y = Str.ofString "due" then some dv else if y = Str.ofString "first" then u else m₀ y) → News h₀ L h' S' → (∀ p ∈ S, p ∈ S') → WayD es due x due' → DueAt S' dv due' → Q .next { s with heap := h', toks := tk' }) :
    wpAny M A t Q E s := by
  refine wpAny_mono h1 ?_ fun _ _ x => x
  rintro f s' ⟨dv, u, due', S', h', tk', rfl, rfl, a1, a2, a3, a4, a5⟩
  exact h2 dv u due' S' h' tk' a1 a2 a3 a4 a5
theorem fr_same2 {h₀ h : Heap} {L : Addr} {m : Str → Option Value} {v : Value} (F : Fr h₀ L h m) (e : m (Str.ofString "due") = some v) : Fr h₀ L h (fun y => if y = Str.ofString "due" then some v else if y = Str.ofString "first" then m (Str.ofString "first") else m y) := by
  have q : (fun y => if y = Str.ofString "due" then some v else if y = Str.ofString "first" then m (Str.ofString "first") else m y) = m := by
    funext y
    by_cases h : y = Str.ofString "due"
    · subst h; simp [e]
    · by_cases h2 : y = Str.ofString "first"
      · subst h2; simp [h]
      · simp [h, h2]
  rw [q]; exact F
theorem fr_due {h₀ h : Heap} {L : Addr} {m : Str → Option Value} {v : Value} (F : Fr h₀ L h (fun y => if y = Str.ofString "due" then some v else m y)) : Fr h₀ L h (fun y => if y = Str.ofString "due" then some v else if y = Str.ofString "first" then m (Str.ofString "first") else m y) := by
  have q : (fun y => if y = Str.ofString "due" then some v else if y = Str.ofString "first" then m (Str.ofString "first") else m y) = (fun y => if y = Str.ofString "due" then some v else m y) := by
    funext y
    by_cases h : y = Str.ofString "due"
    · subst h; simp
    · by_cases h2 : y = Str.ofString "first"
      · subst h2; simp [h]
      · simp [h, h2]
  rw [q]; exact F
theorem Plan.first {es : List Ex} {due : Option Ty} (h : Plan es due) : ∃ b f, es[0]? = some b ∧ First b f := by
  rcases h with ⟨p, R, _⟩ | ⟨h, t, H, l, _⟩
  · exact R.first
  · exact H.first l
theorem head_at {S : List (Addr × Obj)} {vs : List Value} {es : List Ex} {b : Ex} (h : DatAll S vs (es.map Ex.dat)) (e : es[0]? = some b) : ∃ a vs', vs = .ref a :: vs' ∧ DatIn S (.ref a) b.dat := by
  cases es with
  | nil => cases e
  | cons x r =>
    obtain rfl : x = b := by simpa using e
    rw [List.map_cons] at h
    cases h with
    | cons h1 h2 =>
      obtain ⟨ad, n, ws, rfl, _⟩ := Ex.shape h1
      exact ⟨_, _, rfl, h1⟩
theorem fn_0 : fnm (fk 0).val = Str.ofString "F0" := by decide +kernel
theorem way1_dat {S : List (Addr × Obj)} {a tr : Addr} {n : Nat} {t1 t2 : Tok} (u : DatIn S (.ref tr) (baseE n).dat) (hm : (a, tupO [.str (Str.ofString "un") t1, .str (Str.ofString "-") t2, .ref tr] 0) ∈ S) {x : Int} (e : x = 1) : DatIn S (.ref a) (wayE n x).dat := by
  rw [wayE, if_pos e, Ex.dat]
  exact .tuple hm (.cons (.str _ _) (.cons (.str _ _) (.cons u .nil)))
theorem way2_dat {S : List (Addr × Obj)} {a tr a1 a2 a3 : Addr} {n : Nat} {t1 t2 t3 t4 t5 t6 : Tok} (u : DatIn S (.ref tr) (baseE n).dat) (hm : (a, tupO [.str (Str.ofString "bin") t1, .str (Str.ofString "*") t2, .ref tr, .ref a1] 0) ∈ S)
    (h1 : (a1, tupO [.str (Str.ofString "ref") t3, .str (Str.ofString "F0") t4, .ref a2] 0) ∈ S) (h2 : (a2, listOf [.ref a3].toArray 0) ∈ S) (h3 : (a3, tupO [.str (Str.ofString "name") t5, .str (Str.ofString "Z") t6] 0) ∈ S) {x : Int} (e1 : x ≠ 1) (e : x = 2) : DatIn S (.ref a) (wayE n x).dat := by
  rw [wayE, if_neg e1, if_pos e, Ex.dat]
  refine .tuple hm (.cons (.str _ _) (.cons (.str _ _) (.cons u (.cons ?_ .nil))))
  rw [Ex.dat, fn_0]
  exact .tuple h1 (.cons (.str _ _) (.cons (.str _ _) (.cons (.list h2 (.cons (.tuple h3 (.cons (.str _ _) (.cons (.str _ _) .nil))) .nil)) .nil)))
theorem due_neg {S : List (Addr × Obj)} {a : Addr} {dv : Value} {ty : Ty} {t1 t2 : Tok} (u : DatIn (kone ++ S) dv ty.dat) (hm : (a, tupO [.str (Str.ofString "neg") t1, .int 1 t2, dv] 0) ∈ S) : DueAt S (.ref a) (some (.ng ty)) := by
  show DatIn (kone ++ S) _ _
  rw [Ty.dat]
  exact .tuple (List.mem_append_right _ hm) (.cons (.str _ _) (.cons (.int _ _) (.cons u .nil)))
theorem due_mul {S : List (Addr × Obj)} {a : Addr} {dv fv : Value} {ty f : Ty} {t1 t2 : Tok} (u : DatIn (kone ++ S) dv ty.dat) (uf : DatIn (kone ++ S) fv f.dat) (hm : (a, tupO [.str (Str.ofString "mul") t1, .int 1 t2, dv, fv] 0) ∈ S) : DueAt S (.ref a) (some (.bi false ty f)) := by
  show DatIn (kone ++ S) _ _
  rw [Ty.dat]
  exact .tuple (List.mem_append_right _ hm) (.cons (.str _ _) (.cons (.int _ _) (.cons u (.cons uf .nil))))
theorem plain {es : List Ex} {due due' : Option Ty} {x : Int} (hP : Plan es due) (hw : WayD es due x due') : ∃ r', Ev (fun k => es[k.val]?) 615 none [] 0 0 (wayE es.length x) r' ∧ due' = r'.map (·.1) ∧ ∀ t c, r' = some (t, c) → t.lev ≤ 102 := by
  rcases hP with ⟨p, R, rfl⟩ | ⟨h, t, H, l, rfl⟩
  · refine way_ev (rep_top R (Nat.zero_le _)) ?_ ?_ hw
    · split <;> rfl
    · intro t c e
      split at e
      · simp only [Option.some.injEq, Prod.mk.injEq] at e
        obtain ⟨rfl, rfl⟩ := e
        exact ⟨by omega, by decide⟩
      · cases e
  · refine way_ev (hea_top H l) ?_ ?_ hw
    · split <;> rfl
    · intro t c e
      have := H.len
      have := H.fit.1
      split at e
      · simp only [Option.some.injEq, Prod.mk.injEq] at e
        obtain ⟨rfl, rfl⟩ := e
        exact ⟨by omega, by omega⟩
      · cases e
theorem kone_look (P : Params) : ∀ p ∈ kone, (hd.heap_39 P).lookup p.1 = some p.2 := List.forall_mem_cons.mpr ⟨by rfl, List.forall_mem_cons.mpr ⟨by rfl, List.forall_mem_nil _⟩⟩
open Classical in
theorem due_eq {prog : Program} {w : World} {A : Around} {E : Value → Shared → Prop} {s : Shared} {h₀ : Heap} {L : Addr} {m : Str → Option Value} {S : List (Addr × Obj)} {v u : Value} {t : Ty} {Q : Value → Shared → Prop}
    (F : Fr h₀ L s.heap m) (X : (hd.heap_39 w.params).In h₀) (N : News h₀ L s.heap S) (D : DatIn S v t.dat) (D' : DatIn (kone ++ S) u t.dat) (hl : t.lev ≤ 102) (hu : A.units + 103 < cLine) (h : Q (.bool true) s) : wpAny (model prog w) A (compareOp .Eq v u) Q E s :=
  dat_eq (S := kone ++ S) (fun p hp => (List.mem_append.mp hp).elim (fun q => (X.keeps F.keep) _ _ (kone_look _ p q)) fun q => (N p q).1) (D.mono fun p hp => List.mem_append_right _ hp) D' (Ty.ok t) (Ty.ok t)
    (Nat.lt_of_le_of_lt (Nat.add_le_add_left (Nat.le_trans (Nat.min_le_right _ _) (Nat.succ_le_succ hl)) _) hu) (by rw [decide_eq_true rfl]; exact h)
theorem due_ref {S : List (Addr × Obj)} {v : Value} {t : Ty} (h : DueAt S v (some t)) : ∃ a, v = .ref a := Ty.hin h
theorem bel_not : ∀ wr, (belE wr (.nm false)).dat ≠ Ex.one.dat
  | 0 => fun e => by simp [belE, Ex.dat, oneE] at e
  | wr + 1 => fun e => by
    rw [belE] at e
    split at e <;> simp [Ex.dat, oneE] at e
open Classical in
theorem real_eq {prog : Program} {w : World} {A : Around} {E : Value → Shared → Prop} {s : Shared} {h₀ : Heap} {L a b : Addr} {S : List (Addr × Obj)} {e : Ex} {t1 t2 t3 : Tok} {Q : Value → Shared → Prop} (N : News h₀ L s.heap S) (D : DatIn S (.ref a) e.dat)
    (hm : (b, tupO [.str (Str.ofString "real") t1, .int 1 t2, .int 0 t3] 0) ∈ S) (hu : A.units + 2 < cLine) (h : Q (.bool (decide (e.dat = Ex.one.dat))) s) : wpAny (model prog w) A (compareOp .Eq (.ref a) (.ref b)) Q E s :=
  dat_eq (fun p hp => (N p hp).1) D (by rw [Ex.dat, oneE]; exact .tuple hm (.cons (.str _ _) (.cons (.int _ _) (.cons (.int _ _) .nil)))) (Ex.ok e) (Ex.ok .one) (Nat.lt_of_le_of_lt (Nat.add_le_add_left (Nat.min_le_right _ _) _) hu) h
open Classical in
theorem real_yes : decide (Ex.one.dat = Ex.one.dat) = true := decide_eq_true rfl
open Classical in
theorem real_no {wr : Nat} : decide ((belE wr (.nm false)).dat = Ex.one.dat) = false := decide_eq_false (bel_not wr)
theorem var_in {S : List (Addr × Obj)} {a : Addr} {t1 t2 t3 : Tok} (hm : (a, tupO [.str (Str.ofString "var") t1, .int 1 t2, .str (Str.ofString "Z") t3] 0) ∈ S) : DatIn (kone ++ S) (.ref a) Ty.var.dat := by
  rw [Ty.dat]
  exact .tuple (List.mem_append_right _ hm) (.cons (.str _ _) (.cons (.int _ _) (.cons (.str _ _) .nil)))
/-- the pairs of the table of symbols -/
noncomputable def kvT (ax az : Addr) (as : List Addr) : List (Str × Value) := [(nmS false, .ref ax), (nmS true, .ref az)] ++ as.mapIdx fun k a => (fnm k, Value.ref a)
theorem kvT_snoc {ax az a : Addr} {as : List Addr} : kvT ax az (as ++ [a]) = kvT ax az as ++ [(fnm as.length, .ref a)] := by
  unfold kvT
  rw [List.mapIdx_concat, List.append_assoc]
theorem kvT_len {ax az : Addr} {as : List Addr} : (kvT ax az as).length = as.length + 2 := by
  unfold kvT; simp
theorem fnm_inj : ∀ i j : Fin 12, fnm i.val = fnm j.val → i = j := by decide +kernel
theorem fnm_Z : ∀ k : Fin 12, fnm k.val ≠ nmS true := by decide +kernel
theorem kvT_new {ax az : Addr} {as : List Addr} (h : as.length < 12) : valueAt (kvT ax az as) (fnm as.length) = none := by
  refine valueAt_none_of_not_mem fun hm => ?_
  unfold kvT at hm
  rw [List.map_append] at hm
  rcases List.mem_append.mp hm with hm | hm
  · rcases List.mem_cons.mp hm with e | hm
    · exact fnm_X ⟨as.length, h⟩ e
    · exact fnm_Z ⟨as.length, h⟩ (List.mem_singleton.mp hm)
  · obtain ⟨p, hp, e⟩ := List.mem_map.mp hm
    obtain ⟨i, hi, e2⟩ := List.mem_mapIdx.mp hp
    subst e2
    have := congrArg Fin.val (fnm_inj ⟨i, by omega⟩ ⟨as.length, h⟩ e)
    dsimp only at this; omega
theorem kvT_stored {ax az a : Addr} {as : List Addr} (h : as.length < 12) : stored (kvT ax az as) (fnm as.length) (.ref a) = kvT ax az (as ++ [a]) := by
  rw [stored_absent (kvT_new h), kvT_snoc]
theorem kvT_X {ax az : Addr} {as : List Addr} : valueAt (kvT ax az as) (nmS false) = some (.ref ax) := by
  unfold kvT valueAt; rfl
theorem kvT_Z {ax az : Addr} {as : List Addr} : valueAt (kvT ax az as) (nmS true) = some (.ref az) := by
  unfold kvT valueAt
  rw [List.cons_append, List.find?_cons_of_neg (by simpa using nm_ne)]
  simp
theorem kvT_get {ax az a : Addr} {as : List Addr} {k : Nat} (h : as[k]? = some a) (hn : ((kvT ax az as).map (·.1)).Nodup) : valueAt (kvT ax az as) (fnm k) = some (.ref a) := by
  refine valueAt_of_get hn (i := k + 2) ?_
  unfold kvT
  rw [List.getElem?_append_right (by simp)]
  simp [List.getElem?_mapIdx, h]
/-- the table's symbols stand in the ledger -/
structure TabOK (w : World) (S : List (Addr × Obj)) (es : List Ex) (ax az : Addr) (as : List Addr) : Prop where
  x : SymAt w S ax (nmS false) "var" .none
  z : SymAt w S az (nmS true) "var" .none
  f : ∀ k a, as[k]? = some a → ∃ tp dl nt nl tx vb b, es[k]? = some b ∧ SymAt w S a (fnm k) "stfunc" (.ref tp) ∧ (tp, tupO [.ref dl, vb] nt) ∈ S ∧ (dl, listOf [.str (nmS false) tx].toArray nl) ∈ S ∧ DatIn S vb b.dat
theorem TabOK.mono {w : World} {S S' : List (Addr × Obj)} {es : List Ex} {ax az : Addr} {as : List Addr} (h : TabOK w S es ax az as) (s : ∀ p ∈ S, p ∈ S') : TabOK w S' es ax az as := by
  obtain ⟨a, b, c⟩ := h
  refine ⟨a.mono s, b.mono s, fun k x hk => ?_⟩
  obtain ⟨tp, dl, nt, nl, tx, vb, b, e1, e2, e3, e4, e5⟩ := c k x hk
  exact ⟨tp, dl, nt, nl, tx, vb, b, e1, e2.mono s, s _ e3, s _ e4, e5.mono s⟩
theorem TabOK.snoc {w : World} {S : List (Addr × Obj)} {es : List Ex} {ax az : Addr} {as : List Addr} (h : TabOK w S es ax az as) {a tp dl : Addr} {nt nl : Nat} {tx : Tok} {vb : Value} {b : Ex}
    (e1 : es[as.length]? = some b) (e2 : SymAt w S a (fnm as.length) "stfunc" (.ref tp)) (e3 : (tp, tupO [.ref dl, vb] nt) ∈ S) (e4 : (dl, listOf [.str (nmS false) tx].toArray nl) ∈ S) (e5 : DatIn S vb b.dat) : TabOK w S es ax az (as ++ [a]) := by
  obtain ⟨x, y, c⟩ := h
  refine ⟨x, y, fun k z hk => ?_⟩
  rcases Nat.lt_trichotomy k as.length with hl | hl | hl
  · rw [List.getElem?_append_left hl] at hk
    exact c k z hk
  · subst hl
    simp at hk
    subst hk
    exact ⟨tp, dl, nt, nl, tx, vb, b, e1, e2, e3, e4, e5⟩
  · rw [List.getElem?_eq_none (by simp; omega)] at hk
    cases hk
theorem TabOK.syms {w : World} {S : List (Addr × Obj)} {es : List Ex} {ax az : Addr} {as : List Addr} (h : TabOK w S es ax az as) (hl : as.length = es.length) (hn : ((kvT ax az as).map (·.1)).Nodup) : SymsOK w S (kvT ax az as) fun k => es[k.val]? := by
  obtain ⟨x, y, c⟩ := h
  refine ⟨⟨ax, _, kvT_X, x⟩, ⟨az, _, kvT_Z, y⟩, fun k b hk => ?_⟩
  replace hk : es[k.val]? = some b := hk
  have hk' : k.val < as.length := by rw [hl]; exact (List.getElem?_eq_some_iff.mp hk).1
  have ha : as[k.val]? = some as[k.val] := by simp [hk']
  obtain ⟨tp, dl, nt, nl, tx, vb, b', e1, e2, e3, e4, e5⟩ := c k.val _ ha
  rw [e1] at hk
  cases hk
  exact ⟨_, tp, dl, nt, nl, tx, vb, kvT_get ha hn, e2, e3, e4, e5⟩
theorem item_nat {prog : Program} {w : World} {A : Around} {E : Value → Shared → Prop} {s : Shared} {h₀ : Heap} {L D : Addr} {news : List (Addr × Obj)} {vs : List Value} {v : Value} {c i : Nat} {u : Tok} {value slice : PySem.Expr} {Q : Value → Shared → Prop}
    (N : News h₀ L s.heap news) (hm : (D, listOf vs.toArray c) ∈ news) (hv : vs[i]? = some v) (hi : i ≤ 1000) (h : Q v s) (hs : subscripted slice false (.ref D) (.int (i : Int) u) = operate [.ref D, .int (i : Int) u] (getItem (.ref D) (.int (i : Int) u))) (hg : ∀ r, letTemporaryGo value (.ref D) r = pure ()) :
    wpAny (model prog w) A (subscriptTail value slice (.ref D) (.int (i : Int) u)) Q E s := item_listL (News.isList N hm) (by omega) (by omega) (by simpa using hv) h hs hg
theorem nameD {P : Prop} {d : Addr} (lo : (d == sysModules) = false) (k : ∀ j, j = d → P) : P := k d rfl
theorem nameW {P : Prop} {w : World} {h : Heap} (_ : (hd.heap_39 w.params).In h) (k : ∀ u, u = w → P) : P := k w rfl
section
variable {prog : Program} {w : World} {A : Around} {E : Value → Shared → Prop} {s : Shared} {env : Env} {h₀ : Heap} {x : Str} {body : List Stmt} {Q : Flow → Shared → Prop}
set_option maxHeartbeats 3200000 in
/-- a loop over the keys of a dict of names that the turns leave alone -/
theorem loop_keys {σ : Type} {d : Addr} {od : Obj} {kvs : List (Str × Value)} {m₀ : Str → Option Value} {news : List (Addr × Obj)} (ps : σ → List (Str × Value)) (stored : List Str) (Inv : Nat → σ → List (Addr × Obj) → Prop) (c₀ : σ)
    (hh : A.handled = none) (hl : (d, od) ∈ news) (hd : od.IsDictOf (PySem.strKind prog w) kvs) (lo : (d == sysModules) = false) (F : Fr h₀ env.locals s.heap m₀) (N : News h₀ env.locals s.heap news) (hi : Inv 0 c₀ news) (hk : ∀ p ∈ ps c₀, m₀ p.1 = some p.2)
    (turn : ∀ (i : Nat) (c : σ) nx k y t (u : Str → Option Value) h tk own, kvs[i]? = some (k, y) → OwnOff own (nx.map (·.1)) → (d, od) ∈ nx → Inv i c nx →
      Fr h₀ env.locals h (fun z => if z = x then some (.str k t) else kstB (fun z => if stored.contains z then u z else m₀ z) (ps c) z) → News h₀ env.locals h (nx ++ own) →
      wpAny (model prog w) A (execs body env) (InvPostG h₀ env.locals (fun m' nx' => (d, od) ∈ nx' ∧ LJ x ps stored m₀ (Inv (i + 1)) m' nx') own { s with heap := h, toks := tk } Q) E { s with heap := h, toks := tk })
    (done : ∀ (c : σ) nx (u : Str → Option Value) h tk, Inv kvs.length c nx → Fr h₀ env.locals h (fun y => if y = x then u y else kstB (fun z => if stored.contains z then u z else m₀ z) (ps c) y) → News h₀ env.locals h nx → Q .next { s with heap := h, toks := tk }) :
    wpAny (model prog w) A (pyIter (.ref d)) (fun it s₂ => LoopAtV prog w A h₀ env x body Q E it s₂) E s := by
  have hod : s.heap.get? d = some od := (N _ hl).1
  obtain ⟨ep, hat⟩ := KdkAt.of hd
  have hne : d ≠ s.heap.objs.size := Nat.ne_of_lt (Heap.lt_size hod)
  refine wpAny_pyIter_dict lo (hat.dictAt hod) ?_
  have W := Walks.dictKeys (prog := prog) (w := w) (knd := PySem.strKind prog w) hh s.heap.objs.size d hne kvs ep
  refine ⟨_, _, _, kvs.length, _, _, m₀, news, (fun i m nx => (d, od) ∈ nx ∧ LJ x ps stored m₀ (Inv i) m nx), rfl, W, ?_, ?_, ?_, ⟨⟨_, Heap.get?_push_size _ rfl, rfl, rfl⟩, hat.dictAt (Heap.get?_push_of_some _ hod)⟩, F.push _, (fun p hp => ⟨Heap.get?_push_of_some _ (N p hp).1, (N p hp).2⟩), ⟨hl, c₀, hi, hk, fun _ _ _ _ => rfl⟩, ?_, ?_⟩
  · intro hm
    rcases List.mem_cons.mp hm with e | hm
    · exact absurd F.ns.lt (e ▸ Nat.lt_irrefl _)
    · exact (N _ hl).2.1 ((List.mem_singleton.mp hm).symm)
  · intro b hb
    rw [List.mem_singleton.mp hb]
    exact next_is_new F
  · intro p hp hI
    exact absurd (Heap.lt_size (N p hp).1) ((List.mem_singleton.mp hI) ▸ Nat.lt_irrefl _)
  · rintro i v m₁ nx s₁ own ⟨g, tk', rfl⟩ hin ⟨k, y, hx, hkey⟩ ⟨hdn, c, hc, h1, h2⟩ hoff hown hget hfp hst F₁ N₁
    obtain ⟨t, rfl⟩ := PySem.Value.isStrOf_shape hkey
    have hI0 : h₀.get? s.heap.objs.size = none := next_is_new F
    obtain ⟨⟨oI, hoI, _⟩, _⟩ := id hst
    let it := own.filter fun p => decide (p.1 = s.heap.objs.size)
    have hit : ∀ p ∈ it, p ∈ own ∧ p.1 = s.heap.objs.size := fun p hp => ⟨(List.mem_filter.mp hp).1, by simpa using (List.mem_filter.mp hp).2⟩
    have hback : ∀ p ∈ own, p.1 = s.heap.objs.size → p ∈ it := fun p hp e => List.mem_filter.mpr ⟨hp, by simpa using e⟩
    have hIit : (s.heap.objs.size, oI) ∈ it := hback _ (hfp _ (List.mem_cons.mpr (.inl rfl)) hI0 _ hoI) rfl
    have hsep : OwnOff it (nx.map (·.1)) := by
      intro p hp b hb e
      obtain ⟨q, hq, rfl⟩ := List.mem_map.mp hb
      exact hoff q hq (List.mem_singleton.mpr (e ▸ (hit p hp).2))
    have N₂ : News h₀ env.locals g (nx ++ it) := fun p hp => N₁ p ((List.mem_append.mp hp).elim (fun h => List.mem_append.mpr (.inr h)) fun h => List.mem_append.mpr (.inl (hit p h).1))
    have hdo : g.get? d = some od := (N₁ _ (List.mem_append.mpr (.inr hdn))).1
    refine wpAny_mono (turn i c nx k y t m₁ g tk' it hx hsep hdn hc (kst_fr h1 h2 F₁) N₂) (fun f s₂ p => ?_) fun _ _ e => e
    have fin : InvEndG h₀ env.locals (fun m' nx' => (d, od) ∈ nx' ∧ LJ x ps stored m₀ (Inv (i + 1)) m' nx') it { s with heap := g, toks := tk' } s₂ →
        LoopStepU h₀ env.locals [s.heap.objs.size] own (fun m nx => (d, od) ∈ nx ∧ LJ x ps stored m₀ (Inv (i + 1)) m nx) { s with heap := g, toks := tk' } .next s₂ := by
      rintro ⟨h', tk, m', news', nx', e, F', N', hn, ho, ha, hm⟩
      refine ⟨rfl, h', tk, m', nx', e, F', fun p hp => ?_, fun p hp hq => ?_, hm⟩
      · rcases List.mem_append.mp hp with h | h
        · rcases List.mem_cons.mp (hown p h) with hI | hD
          · exact N' p (ho p (hback p h hI))
          · have h2 : g.get? p.1 = some p.2 := hget p h
            rw [List.mem_singleton.mp hD, hdo] at h2
            have h3 : p = (d, od) := Prod.ext (List.mem_singleton.mp hD) (Option.some.inj h2).symm
            rw [h3]
            exact N' _ (hn _ hm.1)
        · exact N' p (hn p h)
      · exact ha _ hIit p.1 (List.mem_map.mpr ⟨p, hp, rfl⟩) (List.mem_singleton.mp hq).symm
    cases f with
    | ret v => exact .ret p
    | brk => exact .brk p
    | next => exact .next (fin p)
    | cont => exact .cont (fin p)
  · rintro h' tk' m' news' F' N' _ ⟨_, c, hc, h1, h2⟩
    exact done c news' m' h' tk' hc (kst_frOut h1 h2 F') N'
end
/-- what a store into a symbol leaves of the ledger -/
structure KeepR (w : World) (sy : Addr) (od : Obj) (S S' : List (Addr × Obj)) : Prop where
  one : ∀ p ∈ S, p.2.cls ≠ .type "dict" → p ∈ S'
  two : (sy, od) ∈ S'
  three : ∀ a nm use val, SymAt w S a nm use val → SymAt w S' a nm use val
theorem KeepR.refl {w : World} {sy : Addr} {od : Obj} {S : List (Addr × Obj)} (h : (sy, od) ∈ S) : KeepR w sy od S S := ⟨fun _ hp _ => hp, h, fun _ _ _ _ h => h⟩
theorem KeepR.trans {w : World} {sy : Addr} {od : Obj} {S S' S'' : List (Addr × Obj)} (a : KeepR w sy od S S') (b : KeepR w sy od S' S'') : KeepR w sy od S S'' :=
  ⟨fun p hp h => b.one p (a.one p hp h) h, b.two, fun x nm use val h => b.three x nm use val (a.three x nm use val h)⟩
theorem KeepR.dat {w : World} {sy : Addr} {od : Obj} {S S' : List (Addr × Obj)} (a : KeepR w sy od S S') : ∀ p ∈ S, isDat p.2 → p ∈ S' := fun p hp h => a.one p hp fun e => by
  rcases h with h | h <;> (rw [h] at e; simp at e)
theorem symD_not {w : World} {nm : Str} {use : String} {val v : Value} {dm : Addr} {t : Fin 13 → Tok} {r : List (Str × Value)} : ¬ (symD w nm use val dm t 9).IsDictOf (PySem.strKind PR w) ((nmS false, v) :: r) := by
  rintro ⟨es, ep, _, hdt, _, hp, _⟩
  have e : es.toList = [en w "name" (t 0) (.str nm (t 9)), en w "kind" (t 1) (.int 1 (t 10)), en w "length" (t 2) (.int 0 (t 11)), en w "dims" (t 3) (.ref dm), en w "use" (t 4) (.str (Str.ofString use) (t 12)), en w "is_dummy" (t 5) (.bool false), en w "value" (t 6) val, en w "common" (t 7) .none, en w "is_saved" (t 8) (.bool false)] := by
    have h2 := (Data.dict.inj hdt).1
    rw [← h2]
  rw [e] at hp
  cases hp with
  | cons hk _ _ =>
    have hk' : Value.isStrOf (nmS false) (.str (Str.ofString "name") (t 0)) = true := hk
    obtain ⟨_, q⟩ := PySem.Value.isStrOf_shape hk'
    have q2 : Str.ofString "name" = nmS false := (Value.str.inj q).1
    revert q2
    decide +kernel
theorem symD_inj {w : World} {nm nm' : Str} {use use' : String} {val val' : Value} {dm dm' : Addr} {t t' : Fin 13 → Tok} (h : symD w nm use val dm t 9 = symD w nm' use' val' dm' t' 9) : nm = nm' ∧ Str.ofString use = Str.ofString use' ∧ val = val' ∧ dm = dm' := by
  have h2 := (Data.dict.inj (congrArg Obj.data h)).1
  have h3 := congrArg Array.toList h2
  simp only [W.dictOf, List.cons.injEq, DictEntry.mk.injEq, Value.str.injEq, Value.int.injEq, Value.ref.injEq, true_and, and_true] at h3
  exact ⟨h3.1.2.1, h3.2.2.2.2.1.2.1, h3.2.2.2.2.2.2.1.2, h3.2.2.2.1.2⟩
noncomputable def cutD (d : Addr) (S : List (Addr × Obj)) : List (Addr × Obj) := S.filter fun p => decide (p.1 ≠ d)
theorem cutD_mem {d : Addr} {S : List (Addr × Obj)} {p : Addr × Obj} : p ∈ cutD d S ↔ p ∈ S ∧ p.1 ≠ d := by unfold cutD; rw [List.mem_filter]; simp
theorem keep_turn {w : World} {sy ds : Addr} {od : Obj} {S : List (Addr × Obj)} {h₀ h : Heap} {L : Addr} {nm : Str} {use : String} {val v : Value} {dm : Addr} {t t' : Fin 13 → Tok} {r : List (Str × Value)} (N : News h₀ L h S) (h1 : (ds, symD w nm use val dm t 9) ∈ S) (hs : (sy, od) ∈ S)
    (hd : od.IsDictOf (PySem.strKind PR w) ((nmS false, v) :: r)) : sy ≠ ds ∧ KeepR w sy od S ((ds, symD w nm use val dm t' 9) :: cutD ds S) := by
  have hne : sy ≠ ds := fun e => by
    subst e
    have q := news_fun N hs h1
    subst q
    exact symD_not hd
  refine ⟨hne, fun p hp hc => ?_, .tail _ (cutD_mem.mpr ⟨hs, hne⟩), ?_⟩
  · refine .tail _ (cutD_mem.mpr ⟨hp, fun e => hc ?_⟩)
    obtain ⟨b, o⟩ := p
    dsimp only at e hc ⊢
    subst e
    rw [news_fun N hp h1]
  · rintro a' nm' use' val' ⟨d', dm', t'', k1, k2⟩
    have ha : a' ≠ ds := fun e => by
      subst e
      have q := congrArg Obj.cls (news_fun N k1 h1)
      simp [instObj, W.dictOf] at q
    by_cases e : d' = ds
    · subst e
      obtain ⟨e1, e2, e3, e4⟩ := symD_inj (news_fun N k2 h1)
      refine ⟨d', dm', t', .tail _ (cutD_mem.mpr ⟨k1, ha⟩), ?_⟩
      subst e1 e3 e4
      rw [show symD w nm' use' val' dm' t' 9 = symD w nm' use val' dm' t' 9 by unfold symD; rw [e2]]
      exact .head _
    · exact ⟨d', dm', t'', .tail _ (cutD_mem.mpr ⟨k1, ha⟩), .tail _ (cutD_mem.mpr ⟨k2, e⟩)⟩
theorem KeepR.tab {w : World} {sy : Addr} {od : Obj} {S S' : List (Addr × Obj)} (K : KeepR w sy od S S') {es : List Ex} {ax az : Addr} {as : List Addr} (T : TabOK w S es ax az as) : TabOK w S' es ax az as := by
  obtain ⟨x, z, f⟩ := T
  refine ⟨K.three _ _ _ _ x, K.three _ _ _ _ z, fun k a hk => ?_⟩
  obtain ⟨tp, dl, nt, nl, tx, vb, b, e1, e2, e3, e4, e5⟩ := f k a hk
  exact ⟨tp, dl, nt, nl, tx, vb, b, e1, K.three _ _ _ _ e2, K.dat _ e3 (.inl rfl), K.dat _ e4 (.inr rfl), DatIn.data K.dat e5⟩
theorem kvT_at {w : World} {S : List (Addr × Obj)} {es : List Ex} {ax az : Addr} {as : List Addr} (T : TabOK w S es ax az as) {i : Nat} {k : Str} {y : Value} (h : (kvT ax az as)[i]? = some (k, y)) : ∃ a use val, y = .ref a ∧ SymAt w S a k use val := by
  obtain ⟨x, z, f⟩ := T
  unfold kvT at h
  match i, h with
  | 0, h => cases h; exact ⟨_, _, _, rfl, x⟩
  | 1, h => cases h; exact ⟨_, _, _, rfl, z⟩
  | i + 2, h =>
    rw [List.getElem?_append_right (by simp)] at h
    simp only [List.length_cons, List.length_nil, Nat.add_sub_cancel, List.getElem?_mapIdx] at h
    cases ha : as[i]? with
    | none => simp [ha] at h
    | some a =>
      simp [ha] at h
      obtain ⟨rfl, rfl⟩ := h
      obtain ⟨tp, dl, nt, nl, tx, vb, b, e1, e2, e3, e4, e5⟩ := f i a ha
      exact ⟨a, _, _, rfl, e2⟩
theorem kvs_nodup {prog : Program} {w : World} {o : Obj} {kvs : List (Str × Value)} (h : o.IsDictOf (PySem.strKind prog w) kvs) : (kvs.map (·.1)).Nodup := by
  obtain ⟨_, _, _, _, _, _, hn⟩ := h
  exact hn
theorem inst_ne {w : World} {a ds : Addr} {S : List (Addr × Obj)} {h₀ h : Heap} {L : Addr} {nm : Str} {use : String} {val : Value} {dm : Addr} {t : Fin 13 → Tok} (N : News h₀ L h S) (h1 : (a, instObj 324 ds) ∈ S) (h2 : (ds, symD w nm use val dm t 9) ∈ S) : a ≠ ds := fun e => by
  subst e
  have q := congrArg Obj.cls (news_fun N h1 h2)
  simp [instObj, W.dictOf] at q
theorem TabOK.move {w : World} {S S' : List (Addr × Obj)} {es : List Ex} {ax az : Addr} {as : List Addr} (T : TabOK w S es ax az as) (hs : ∀ a nm use val, SymAt w S a nm use val → SymAt w S' a nm use val) (hd : ∀ p ∈ S, isDat p.2 → p ∈ S') : TabOK w S' es ax az as := by
  obtain ⟨x, z, f⟩ := T
  refine ⟨hs _ _ _ _ x, hs _ _ _ _ z, fun k a hk => ?_⟩
  obtain ⟨tp, dl, nt, nl, tx, vb, b, e1, e2, e3, e4, e5⟩ := f k a hk
  exact ⟨tp, dl, nt, nl, tx, vb, b, e1, hs _ _ _ _ e2, hd _ e3 (.inl rfl), hd _ e4 (.inr rfl), DatIn.data hd e5⟩
theorem SymAt.pull {w : World} {S S' : List (Addr × Obj)} {a j : Addr} {nm : Str} {use : String} {val : Value} {vs : Array Value} {n : Nat} {h₀ h : Heap} {L : Addr} (H : SymAt w S a nm use val) (N : News h₀ L h S) (hj : (j, listOf vs n) ∈ S) (s : ∀ p ∈ S, p.1 ≠ j → p ∈ S') : SymAt w S' a nm use val := by
  obtain ⟨d, dm, t, k1, k2⟩ := H
  refine ⟨d, dm, t, s _ k1 fun e => ?_, s _ k2 fun e => ?_⟩
  · dsimp only at e
    subst e
    have q := congrArg Obj.cls (news_fun N k1 hj)
    simp [instObj, W.listOf] at q
  · dsimp only at e
    subst e
    have q := congrArg Obj.cls (news_fun N k2 hj)
    simp [W.dictOf, W.listOf] at q
theorem DueAt.data {S S' : List (Addr × Obj)} {v : Value} (h : ∀ p ∈ S, isDat p.2 → p ∈ S') : ∀ {d : Option Ty}, DueAt S v d → DueAt S' v d
  | none, e => e
  | some _, e => DatIn.data (S := kone ++ S) (S' := kone ++ S') (fun p hp k => (List.mem_append.mp hp).elim (fun q => List.mem_append_left _ q) fun q => List.mem_append_right _ (h p q k)) e
theorem reg_words_Lw : True := by
  k_with_none
  w_top off
  k_with "for!" => fail "no word"
  k_with "memr9" => first
    | with_reducible assumption
    | with_reducible exact List.mem_cons_self
    | (with_reducible refine List.mem_cons_of_mem _ ?_; k_extra "memr9")
    | (with_reducible refine List.mem_append_right _ ?_; k_extra "memr9")
    | (with_reducible refine List.mem_append_left _ ?_; k_extra "memr9")
  k_with "mem9" => first
    | k_extra "memr9"
    | assumption
    | k_mem
    | (simp only [List.mem_cons, List.mem_append] at *; simp only [*, true_or, or_true])
    | grind
  k_with "sub8" => first
    | exact List.forall_mem_nil _
    | (refine' List.forall_mem_cons.mpr ⟨?m8, ?_⟩; (case m8 => k_mem); k_extra "sub8")
    | (refine' List.forall_mem_append.mpr ⟨?m8, ?_⟩; (case m8 => k_extra "sub8"); k_extra "sub8")
    | (intro p8 h8; k_mem)
  k_with "sub9" => first
    | k_extra "sub8"
    | (intro p9 h9; first
      | exact h9
      | (simp only [List.mem_cons, List.mem_append] at h9 ⊢; grind))
  k_with "dat9" => repeat' (first
    | exact DatIn.str _ _
    | exact DatIn.int _ _
    | exact DatAll.nil
    | assumption
    | (refine' DatAll.cons ?_ ?_)
    | (refine' DatIn.tuple ?m9 ?_; (case m9 => k_extra "mem9"))
    | (refine' DatIn.list ?m9 ?_; (case m9 => k_extra "mem9"))
    | (refine' DatIn.mono ?s9 ?h9; (case h9 => assumption); (case s9 => k_extra "sub9")))
  k_with "and9" => first
    | ((fail_if_success (fail_if_success (rename _ ∧ _ => hc9))); refine foldP (fun G9 hG9 => ?_); (repeat' (rename _ ∧ _ => hc9; refine and_go hc9 (fun hc8 hc7 => ?_); clear hc9)); refine hG9 ?_; clear hG9 G9)
    | skip
  k_with "fold9" => ((fail_if_success (fail_if_success k_fold)); refine (let q9 := _; let e9 := _; (?_ : wpAny _ _ _ q9 e9 _)))
  k_with "ne9" => first
    | assumption
    | (refine' ne_all ?h9 ?s9; (case h9 => assumption); (case s9 => k_extra "sub9"))
    | (refine' ne_allT ?h9 ?s9; (case h9 => assumption); (case s9 => k_extra "sub9"))
  k_with "off9" => (
    refine' off_of ?_
    repeat' (first
    | exact offL_nil
    | (refine' offL_sub ?h9 ?s9; (case h9 => assumption); (case s9 => k_extra "sub9"))
    | (refine' offL_cons ?o9 ?_; (case o9 => k_extra "ne9"))
    | (refine' offL_app ?_ ?_)))
  k_with "split9" => first | exact Split.base | (refine Split.cons ?_; k_extra "split9") | (refine Split.app ?_; k_extra "split9")
  k_with "same9" => (intro z9 h1 h2 h3; (simp only [List.mem_cons, List.not_mem_nil, or_false, forall_eq_or_imp, forall_eq] at h2); (simp only [List.contains_cons, List.contains_nil, Bool.or_false, Bool.or_eq_false_iff, beq_eq_false_iff_ne, ne_eq] at h3); (simp [h1, h2, h3, kstB]; done))
  k_with "sameW9" => (intro z9 h2 h3; (simp only [List.mem_cons, List.not_mem_nil, or_false, forall_eq_or_imp, forall_eq] at h2); (simp only [List.contains_cons, List.contains_nil, Bool.or_false, Bool.or_eq_false_iff, beq_eq_false_iff_ne, ne_eq] at h3); (simp [h2, h3, kstB]; done))
  k_with "one9" => (first | exact List.forall_mem_nil _ | (refine' List.forall_mem_cons.mpr ⟨?a9, ?_⟩; (case a9 => with_unfolding_all rfl); k_extra "one9"))
  k_with "offE9" => ((try dsimp only); (repeat (refine' List.forall_mem_cons.mpr ⟨?o9, ?_⟩; (case o9 => ((try dsimp only); k_ne)))); (repeat' (rename _ ∧ _ => hc9; rcases hc9 with ⟨hc8, hc7⟩)); first | exact List.forall_mem_nil _ | assumption | exact lt_ne (by assumption) | exact gt_ne (by assumption))
  k_with "rot9" => repeat' (first | exact Rot.here | refine' Rot.next ?_)
  k_with "nes8" => repeat' (first | assumption | exact List.forall_mem_nil _ | (refine' List.forall_mem_cons.mpr ⟨?m8, ?_⟩; (case m8 => dsimp only; first | exact Nat.ne_of_gt (by assumption) | exact Nat.ne_of_lt (by assumption) | assumption | exact Ne.symm (by assumption) | k_ne)) | exact lt_ne (by assumption) | refine' List.forall_mem_append.mpr ⟨?_, ?_⟩)
  k_with "offs8" => repeat' (first | assumption | exact offL_nil | exact offL_swap (by assumption) | (refine' offL_cons ?m8 ?_; (case m8 => dsimp only; first | exact lt_ne (by assumption) | (refine' lt_ne2 ?A8 ?B8; (case B8 => assumption); (case A8 => assumption)) | k_extra "ne9")) | refine' offL_app ?_ ?_)
  k_with "sel9" => repeat' (first | exact Sel.base | (refine' Sel.old ?m9 ?_; (case m9 => assumption)) | (refine' Sel.cut ?m9 ?_; (case m9 => repeat (first | exact List.mem_cons_self | refine List.mem_cons_of_mem _ ?_))) | refine' Sel.keep ?_ | refine' Sel.app ?_)
  k_with "mems9" => repeat' (first | exact List.forall_mem_nil _ | (refine' List.forall_mem_cons.mpr ⟨?m9, ?_⟩; (case m9 => k_extra "mem9")))
  k_with "isd9" => repeat' (first | (refine' dat_cons ?m9 ?_; (case m9 => first | (intro _; k_mem) | (intro q9; exact absurd q9 (dict_no (by assumption))) | (intro q9; exact absurd q9 (by simp [isDat, instObj, dictOf, itR])))) | (refine' dat_app ?m9 ?_; (case m9 => k_extra "sub9")) | (refine' dat_end ?m9; (case m9 => k_extra "sub9")))
  k_with "~execs cons" => k_extra "fold9"
  k_with "~call builtin:isinstance" => (k_here; (with_reducible show wpAny _ _ (call _ [Value.ref _, Value.type _]) _ _ _); kit_cont; k_dflt kit_objs)
  k_with "~eval Call" => k_extra "fold9"
  k_with "~eval Compare" => k_extra "fold9"
  k_with "~eval BinOp" => k_extra "fold9"
  k_with "~eval Tuple" => k_extra "fold9"
  k_with "~eval List" => k_extra "fold9"
  k_with "~eval Subscript" => k_extra "fold9"
  k_with "~eval Attribute" => k_extra "fold9"
  k_with "~eval IfExp" => k_extra "fold9"
  k_with "lt9" => first
    | with_reducible assumption
    | exact cj0 (by with_reducible assumption)
    | exact cj1 (by with_reducible assumption)
    | exact cj2 (by with_reducible assumption)
    | exact cj3 (by with_reducible assumption)
    | exact cj4 (by with_reducible assumption)
    | exact cj5 (by with_reducible assumption)
    | exact cj6 (by with_reducible assumption)
    | exact cj7 (by with_reducible assumption)
    | exact cz1 (by with_reducible assumption)
    | exact cz2 (by with_reducible assumption)
    | exact cz3 (by with_reducible assumption)
    | exact cz4 (by with_reducible assumption)
    | exact cz5 (by with_reducible assumption)
    | exact cz6 (by with_reducible assumption)
    | exact cz7 (by with_reducible assumption)
    | fail "lt9"
  k_with "om9" => first
    | with_reducible assumption
    | exact Nat.le_of_ble_eq_true rfl
    | exact Ne.symm (by with_reducible assumption)
    | ((with_reducible show (_ : Nat) ≠ _); first | exact Nat.ne_of_lt (by k_extra "lt9") | exact Nat.ne_of_gt (by k_extra "lt9"))
    | ((with_reducible show (_ : Nat) < _); first
      | exact rm1 (by with_reducible assumption) (by exact rfl)
      | exact rm0 (by with_reducible assumption)
      | exact rn1 (by with_reducible assumption) (by exact rfl)
      | exact rn3 (by with_reducible assumption) (by exact rfl)
      | exact rf2 (by with_reducible assumption) (by with_reducible assumption) (by exact rfl)
      | exact rm3 (by with_reducible assumption) (by exact rfl)
      | exact uf2 (by with_reducible assumption) (by with_reducible assumption) (by exact rfl)
      | exact um3 (by with_reducible assumption) (by exact rfl)
      | exact rf1 (by with_reducible assumption) (by with_reducible assumption) (by exact rfl)
      | exact rf3 (by with_reducible assumption) (by with_reducible assumption) (by exact rfl)
      | exact uf3 (by with_reducible assumption) (by with_reducible assumption) (by exact rfl)
      | k_extra "lt9")
    | fail "om9"
  k_with "~@k_all" => first | assumption | exact lt_ne (by assumption) | exact gt_ne (by assumption) | (refine' List.forall_mem_append.mpr ⟨?q9a, ?q9b⟩; (case q9a => k_all); (case q9b => k_all))
  k_with "~call builtin:len" => (k_here; (with_reducible show wpAny _ _ (call (Value.builtin "len") [Value.ref _]) _ _ _); (refine KM.len_K (by k_asm) (by k_dflt k_mem) rfl (by simp; omega) ?_))
  k_with "~@k_room" => ((try simp only [depth_mark, depth_under_make, depth_under_kw, depth_in1, depth_deeper, depth_caller]); (try dsimp only [ktrTop]); omega)
  k_with "~@k_units" => ((have hcL9 := cLine_is); (try simp only [units_in1, units_deeper, Around.mark_units, units_caller]); (try dsimp only [ktrTop]); omega)
  k_with "~exec While Compare cons nil" => k_extra "while!"
  k_with "~pyIter ref" => k_extra "iter!"
  k_with "~call ref" => k_extra "call!"
  k_with "~exec For Name Call cons nil" => (k_extra "for!"; k_here; (rename Fr _ _ _ _ => z9lF'); (with_unfolding_all refine' For_invVF z9lF' ?q9k1 ?q9k2 ?_; (case q9k1 => exact rfl); (case q9k2 => exact rfl); k_whole))
  k_with "~exec For Name Name cons nil" => (k_extra "for!"; k_here; (rename Fr _ _ _ _ => z9lF'); (with_unfolding_all refine' For_invVF z9lF' ?q9k1 ?q9k2 ?_; (case q9k1 => exact rfl); (case q9k2 => exact rfl); k_whole))
  k_with "~@k_mem" => first | assumption | exact List.mem_cons_self | (refine List.mem_cons_of_mem _ ?_; k_mem) | (refine List.mem_append_left _ ?_; k_mem) | (refine List.mem_append_right _ ?_; k_mem)
  k_with "~subscriptTail Name Slice ref ref" => (k_here; (with_reducible show wpAny _ _ (subscriptTail _ (PySem.Expr.Slice _ none none _) (Value.ref _) (Value.ref _)) _ _ _); k_dflt (refine' tup_from ?q9F ?q9N ?q9b ?q9o ?q9l ?q9e ?_ ?q9s ?q9t ?q9z; (case q9F => k_asm); (case q9N => k_asm); (case q9b => k_mem); (case q9o => decide); (case q9l => exact Nat.le_of_ble_eq_true rfl); (case q9e => kl_lit); (case q9s => with_unfolding_all rfl); (case q9t => (intro _; with_unfolding_all rfl)); (case q9z => (simp only [List.length_cons, List.length_nil, sizeLine_eq]; omega))); intro z9D' z9h' z9F' z9N' z9l1; (try k_lt z9l1); (try k_sweep))
  k_with "~exec For Name Subscript cons nil" => (k_here; (rename Fr _ _ _ _ => z9lF'); (with_unfolding_all refine' For_turns z9lF' ?_; k_whole))
  k_with "~exec For Name Name cons nil" => (k_extra "turns!"; k_here; (rename Fr _ _ _ _ => z9lF'); (with_unfolding_all refine' For_turns z9lF' ?_; k_whole))
  k_with "~pyIter ref" => (k_here; (with_reducible show wpAny _ _ (pyIter (Value.ref _)) (fun it s₂ => TurnsAt _ _ _ _ _ _ _ _ _ it s₂) _ _); (rename Fr _ _ _ _ => z9lF'); (rename News _ _ _ _ => z9lN'); k_dflt (refine' iter_tupTurns ?q9h z9lF' z9lN' ?q9m ?q9c ?q9d ?_; (case q9h => with_unfolding_all rfl); (case q9m => k_mem); (case q9c => exact rfl); (case q9d => exact rfl)); clear z9lF'; intro z9i' z9l1; (try k_lt z9l1))
  k_with "~pyIter ref" => (k_here; (with_reducible show wpAny _ _ (pyIter (Value.ref _)) (fun it s₂ => TurnsAt _ _ _ _ _ _ _ _ _ it s₂) _ _); (rename Fr _ _ _ _ => z9lF'); (rename News _ _ _ _ => z9lN'); k_dflt (refine' iter_listTurns ?q9h z9lF' z9lN' ?q9m ?q9c ?q9d ?_; (case q9h => with_unfolding_all rfl); (case q9m => k_mem); (case q9c => exact rfl); (case q9d => exact rfl)); clear z9lF'; intro z9i' z9l1; (try k_lt z9l1))
  k_with "~UnrEndW" => ((rename Fr _ _ _ _ => z9lF'); (rename News _ _ _ _ => z9lN'); (refine' unrEnd z9lF' z9lN' ?q9c9 ?q9o9 ⟨?q9k9, ?_⟩; (case q9c9 => repeat' (first | exact Cut.base | refine' Cut.cons ?_)); (case q9o9 => k_extra "offE9"); (case q9k9 => k_subL)); clear z9lF' z9lN')
  k_with "~@size_fits" => (simp only [List.size_toArray, List.length_append, List.length_cons, List.length_nil, sizeLine_eq]; omega)
  k_with "~call builtin:list.extend" => (k_here; (with_reducible show wpAny _ _ (call (Value.builtin _) [Value.ref _, Value.ref _]) _ _ _); k_dflt (refine' ext_list ?q9F ?q9N ?q9b ?q9ne ?q9U ?q9z ?_; (case q9F => k_asm); (case q9N => k_asm); (case q9b => k_mem); (case q9U => k_upd); (case q9ne => exact List.cons_ne_nil _ _); (case q9z => (simp only [List.length_append, List.length_cons, List.length_nil]; omega))); intro z9h' z9F' z9N'; (try k_sweep))
  k_with "~call builtin:list.pop" => (k_here; (with_reducible show wpAny _ _ (call (Value.builtin _) [Value.ref _]) _ _ _); k_dflt (refine' pop_list ?q9F ?q9N ?q9U ?q9z ?_; (case q9F => k_asm); (case q9N => k_asm); (case q9U => k_upd); (case q9z => omega)); intro z9h' z9F' z9N'; (try k_sweep))
  k_with "~exec Raise some none" => (k_here; refine raise_fault (by rfl) ?_)
  k_with "~call ref" => ((with_reducible show wpAny _ _ (call (Value.ref 44) [_]) _ _ _); k_here; k_dflt (refine' call_fault ?q9k1 ?q9k2 ?q9k3 ?_; (case q9k1 => k_asm); (case q9k2 => k_asm); (case q9k3 => k_asm); intro z9e' z9t' z9h' z9F' z9N' z9l1 z9l2 z9l3 z9n' z9k'; (try k_lt z9l1); (try k_lt2 z9l2); (try k_lt z9l3); (try k_sweep); k_enter))
  k_with "~getMethod type:Exception" => (k_here; (with_reducible refine' method_type ?q9F ?q9X exc_kind exc_stub ?q9e ?q9h ?_); k_dflt ((case q9F => k_asm); (case q9X => k_asm); (case q9e => k_is); (case q9h => k_handed)))
  k_with "~call builtin:Exception.__init__" => (k_here; k_dflt (refine' exc_init ?q9F ?q9X ?q9N ?q9U ?_; (case q9F => k_asm); (case q9X => k_asm); (case q9N => k_asm); (case q9U => k_updF); intro z9t' z9h' z9F' z9N'; (try dsimp only at z9N'); (try k_sweep)))
  k_with "~setAttr ref" => ((with_reducible show wpAny _ _ (setAttr (Value.ref _) (PySem.Str.ofString "text") _) _ _ _); k_here; k_dflt (refine' set_text ?q9T ?q9F ?q9X ?q9N ?q9U ?_; (case q9T => rfl); (case q9F => k_asm); (case q9X => k_asm); (case q9N => k_asm); (case q9U => k_updF); intro z9d' z9h' z9tk' z9F' z9N'; (try dsimp only at z9N'); (try k_sweep)))
  k_with "~exec Raise some none" => (k_here; k_dflt (refine raise_fault' (by rfl) ?_))
  k_with "~Raises44" => (k_here; k_dflt (refine' raises_of ?q9F ?q9X ?q9N ?q9m ?_; (case q9F => k_asm); (case q9X => k_asm); (case q9N => k_asm); (case q9m => k_mem)))
  k_with "~leaving ref" => (k_here; k_dflt (refine' leave_newB ?q9k1 ?q9k2 ?q9k3 ?q9k4 ?_; (case q9k1 => assumption); (case q9k2 => assumption); (case q9k3 => assumption); (case q9k4 => k_mem); k_whole; intro z9h' z9R' z9U'; (try dsimp only at z9R' z9U' ⊢)))
  k_with "~compareOp NotIn str ref" => (k_here; k_dflt (first
    | refine kdg_notin (knd := PySem.strKind _ _) (by k_asm) (by k_mem) (by assumption) (by assumption) (strKind_is _ _ _ _) true (by rw [‹valueAt _ _ = some _›]; rfl) ?_
    | refine kdg_notin (knd := PySem.strKind _ _) (by k_asm) (by k_mem) (by assumption) (by assumption) (strKind_is _ _ _ _) false (by rw [‹valueAt _ _ = none›]; rfl) ?_); (try dsimp only [Bool.not_true, Bool.not_false]))
  k_with "~compareOp In str ref" => (k_here; k_dflt (first
    | refine kda_in (knd := PySem.strKind _ _) (by k_asm) (by k_mem) (by assumption) (by assumption) (strKind_is _ _ _ _) true (by rw [‹valueAt _ _ = some _›]; rfl) ?_
    | refine kda_in (knd := PySem.strKind _ _) (by k_asm) (by k_mem) (by assumption) (by assumption) (strKind_is _ _ _ _) false (by rw [‹valueAt _ _ = none›]; rfl) ?_))
  k_with "~subscriptTail" => (k_here; k_dflt ((with_reducible show wpAny _ _ (subscriptTail _ _ (Value.ref _) (Value.str _ _)) _ _ _); refine kda_item (knd := PySem.strKind _ _) (by k_asm) (by k_mem) (by assumption) (strKind_is _ _ _ _) (by assumption) ?_))
  k_with "~subscriptTail" => (k_here; (with_reducible show wpAny _ _ (subscriptTail _ _ (Value.ref _) (Value.int 1 _)) _ _ _); k_dflt (refine item_kind (by k_asm) (by assumption) (by k_extra "sub9") ?_ (by with_unfolding_all rfl) (by intro _; with_unfolding_all rfl)); intro z9t')
  k_with "~@k_upd" => ((with_reducible show Upd _ _ _ (_ ++ _) _); refine' Upd.app ?q9a ?q9b; (case q9a => k_all); (case q9b => k_upd))
  k_with "~@k_updF" => ((with_reducible show UpdF _ _ (_ ++ _) _); refine' UpdF.app ?q9a ?q9b; (case q9a => k_all); (case q9b => k_updF))
  k_with "~call builtin:len" => (k_here; (with_reducible show wpAny _ _ (call (Value.builtin "len") [Value.ref _]) _ _ _); k_dflt (refine len_one (by k_asm) (by k_mem) ?_))
  k_with "~compareOp In str ref" => (k_here; k_dflt (refine in_strs (by k_asm) (by k_mem) (by assumption) (by assumption) ?_))
  k_with "~binaryOp Add ref ref" => (k_here; (with_reducible show wpAny _ _ (binaryOp _ (Value.ref _) (Value.ref _)) _ _ _); k_dflt (refine' cat_lists ?q9F ?q9N ?q9a ?q9b ?q9z ?_; (case q9F => k_asm); (case q9N => k_asm); (case q9a => k_mem); (case q9b => k_mem); (case q9z => (simp only [List.length_cons, List.length_nil]; omega))); intro z9D' z9h' z9F' z9N' z9l1; (try k_lt z9l1); (try k_sweep))
  k_with "~subscriptTail Name Name ref int" => (k_here; k_dflt (refine item_one (by k_asm) (by k_mem) ?_ (by with_unfolding_all rfl) (by intro _; with_unfolding_all rfl)))
  k_with "~setItem ref str" => (k_here; k_dflt (refine' kda_set (knd := PySem.strKind _ _) ?q9F ?q9N ?q9U ?q9d (strKind_is _ _ _ _) ?q9z ?_; (case q9F => k_asm); (case q9N => k_asm); (case q9U => k_updF); (case q9d => assumption); (case q9z => rw [sizeLine_eq]; exact Nat.le_of_ble_eq_true (by with_unfolding_all rfl))); intro z9h' z9o' z9F' z9N' z9hd'; (try dsimp only at z9N'))
  k_with "~subscriptTail Name Name ref int" => (k_here; k_dflt (refine item_nat (by k_asm) (by k_mem) (by assumption) (by omega) ?_ (by with_unfolding_all rfl) (by intro _; with_unfolding_all rfl)))
  k_with "~setItem ref str" => (k_here; k_dflt (refine' kda_set (knd := PySem.strKind _ _) ?q9F ?q9N ?q9U ?q9d (strKind_is _ _ _ _) ?q9z ?_; (case q9F => k_asm); (case q9N => k_asm); (case q9U => k_updF); (case q9d => assumption); (case q9z => assumption)); intro z9h' z9o' z9F' z9N' z9hd'; (try dsimp only at z9N'))
  k_with "~subscriptTail Name Constant ref int" => k_extra "sub!"
  k_with "~compareOp Eq ref ref" => k_extra "eq!"
  k_with "~call builtin:len" => k_extra "len!"
  k_with "~exec For Name Call cons nil" => k_extra "loop!"
  k_with "~exec For Name Name cons nil" => k_extra "loop!"
  trivial
theorem lw : PySem.Challenge.rw_pq0356_01.Holds := hd (by
  w_strict (
  k_with "for!" => skip
  k_with "iter!" => ((with_reducible show wpAny _ _ (pyIter _) (fun it s₂ => LoopAtV _ _ _ _ _ _ _ _ _ it s₂) _ _); refine Stop.out ?_)
  k_with "call!" => ((first | (with_reducible show wpAny _ _ (call (Value.ref 337) _) _ _ _) | (with_reducible show wpAny _ _ (call (Value.ref 365) _) _ _ _) | (with_reducible show wpAny _ _ (call (Value.ref 372) _) _ _ _) | (with_reducible show wpAny _ _ (call (Value.ref 379) _) _ _ _) | (with_reducible show wpAny _ _ (call (Value.ref 358) _) _ _ _) | (with_reducible show wpAny _ _ (call (Value.ref 278) _) _ _ _) | (with_reducible show wpAny _ _ (call (Value.ref 324) _) _ _ _) | (with_reducible show wpAny _ _ (call (Value.ref 122) _) _ _ _) | (with_reducible show wpAny _ _ (call (Value.ref 303) _) _ _ _)); refine Stop.out ?_)
  k_with "exec Assign" => ((fail_if_success (with_reducible show wpAny _ _ _ (Mid2 _ _ _ _ _ _) _ _)); (with_reducible show wpAny _ _ (exec (Stmt.Assign [Expr.Tuple _ _ _] (Expr.IfExp _ _ _ _) _) _) _ _ _); refine Stop.out ?_)
  k_go0
  all_goals try k_extra "fold9"
  k_steps
  refine Stop.on ?_
  k_extra "and9"
  rename World => w
  rename Below _ _ _ _ => lK'
  rename Fr _ _ _ _ => lF'
  have KB := below_norm lF'
  clear lK'
  rename News _ _ _ _ => lN'
  refine name1 lN' fun j ej => ?_
  subst ej
  rename IntsAre _ ([0] ++ _) => hI9
  replace hI9 : IntsAre _ (0 :: List.take 40 _) := hI9
  obtain ⟨t0, jvs, rfl, hi⟩ := ints_cons hI9
  have hl : jvs.length ≤ 40 := by rw [hi.length, List.length_take]; omega
  k_dflt (refine' join2 (j := j) (jvs := jvs) ?F ?h1 ?h2; (case F => k_asm))
  case h1 =>
    k_steps
    refine Stop.on ?_
    k_dflt (refine tel_law (by k_asm) (by k_asm) (by k_asm) (by rfl) (by k_asm) (spoon _ j 0 2 t0 _ jvs _ 0 _ (by k_extra "nes8") hi (by omega) (by omega) hl (by decide) (by decide)) (by decide) (by decide) ?_ (fun h9 => h9.elim))
    rintro r9 news9 h9 tk9 F9 N9 ⟨x9, tr9, t9, rfl, hx0, hx1, rfl⟩
    k_steps
    · refine Stop.on ?_
      k_dflt (refine tel_law (by k_asm) (by k_asm) (by k_asm) (by rfl) (by k_asm) (repeated _ j (0 + 1) t9 jvs _ 0 _ (by k_extra "nes8") hi (by omega) (by omega) hl) (by decide) (by decide) ?_ (fun h9 => h9.elim))
      rintro r8 news8 h8 tk8 F8 N8 ⟨c8, t8, n8, tp, bl, nt, nb, vs, dv, es, p, rest, rfl, rfl, g1, g2, g3, g4, g5, g6, g7, g8, g9⟩
      have hdue := due_rep (S := rest) g9
      have hhd := hdue.hand
      clear g9
      refine' addN [(tp, tupO [.ref bl, dv] nt)] N8 ?ksz ?_
      case ksz => k_extra "mems9"
      clear N8
      intro N8
      dsimp only [List.cons_append, List.nil_append] at N8
      k_steps
      exact ⟨c8, t8, n8, bl, nb, vs, dv, es, _, rest, _, _, rfl, rfl, by assumption, news_sub (by assumption) (fun q hq => .tail _ hq), g1, g4, g5, .inl ⟨p, g6, rfl⟩, hdue, g7, by omega⟩
    · refine Stop.on ?_
      k_dflt (refine tel_law (by k_asm) (by k_asm) (by k_asm) (by rfl) (by k_asm) (heaped _ j (0 + 1) t9 jvs _ 0 _ (by k_extra "nes8") hi (by omega) (by omega) hl) (by decide) (by decide) ?_ (fun h9 => h9.elim))
      rintro r8 news8 h8 tk8 F8 N8 ⟨c8, t8, n8, tp, bl, nt, nb, vs, dv, es, hh, ty, rest, rfl, rfl, g1, g2, g3, g4, g5, g6, g7, g8, g9, g10⟩
      have hdue := due_hea (S := rest) g10
      have hhd := hdue.hand
      clear g10
      refine' addN [(tp, tupO [.ref bl, dv] nt)] N8 ?ksz ?_
      case ksz => k_extra "mems9"
      clear N8
      intro N8
      dsimp only [List.cons_append, List.nil_append] at N8
      k_steps
      exact ⟨c8, t8, n8, bl, nb, vs, dv, es, _, rest, _, _, rfl, rfl, by assumption, news_sub (by assumption) (fun q hq => .tail _ hq), g1, g4, g5, .inr ⟨hh, ty, g6, g7, rfl⟩, hdue, g8, by omega⟩
  case h2 =>
    intro c9 t9 n9 bl nb vs dv es due rest h9 tk9 F9 N9 r1 r2 r3 hP hdue hc0 hc1
    have hhd := hdue.hand
    clear lF' lN'
    dsimp only
    k_steps
    refine Stop.on ?_
    k_dflt (refine tel_law (by k_asm) (by k_asm) (by k_asm) (by rfl) (by k_asm) (mk_symbol _ _ _ _) (by decide) (by decide) ?_ (fun h9 => h9.elim))
    rintro r8 news8 h8 tk8 F8 N8 ⟨ax, dx, dmx, tx, rfl, rfl, x1, x2, x3⟩
    k_with "loop!" => refine Stop.out ?_
    k_steps
    refine Stop.on ?_
    k_dflt (refine tel_law (by k_asm) (by k_asm) (by k_asm) (by rfl) (by k_asm) (mk_symbol _ _ _ _) (by decide) (by decide) ?_ (fun h9 => h9.elim))
    rintro r7 news7 h7 tk7 F7 N7 ⟨az, dz, dmz, tz, rfl, rfl, z1, z2, z3⟩
    k_lt x1
    k_lt z1
    k_lt2 x2
    k_lt2 x3
    k_lt2 z2
    k_lt2 z3
    k_extra "and9"
    k_steps
    refine Stop.on ?_
    (rename Fr _ _ _ _ => lF'; (with_unfolding_all refine' For_invVF lF' ?k1z ?k2z ?_; (case k1z => exact rfl); (case k2z => exact rfl); k_whole))
    k_with "len!" => refine Stop.out ?_
    k_steps
    refine Stop.on ?_
    have hlen := datAll_len r3
    have hl12 := hP.len
    k_dflt (refine len_at (k := es.length) (by k_asm) (by k_mem) hlen (by omega) ?_)
    have hl13 : es.length ≤ 1000 := by omega
    clear hl12
    k_steps
    rename (_ == sysModules) = false => lo9
    refine nameD lo9 fun sy esy => ?_
    subst esy
    rename Obj.IsDictOf _ _ (strPairs _) => hd9
    replace hd9 : Obj.IsDictOf (PySem.strKind PR w) _ (kvT ax az []) := hd9
    refine Stop.on ?_
    rename IsRange _ _ _ _ _ _ _ _ => lR'
    rename Fr _ _ _ _ => lF'
    rename News _ _ _ _ => lN'
    with_unfolding_all refine' loop_range (b := es.length) (news := (sy, _) :: (j, listOf (.int c9 t9 :: jvs).toArray n9) :: (az, instObj 324 dz) :: (dz, symD w (nmS true) "var" .none dmz tz 9) :: (ax, instObj 324 dx) :: (dx, symD w (nmS false) "var" .none dmx tx 9) :: rest) (σ := Unit) (fun _ => []) [Str.ofString "symbol"] (fun i _ nx => ∃ od as tl, nx = (sy, od) :: (j, listOf (.int c9 t9 :: jvs).toArray n9) :: tl ∧ (∀ p ∈ tl, p.1 ≠ sy) ∧ od.IsDictOf (PySem.strKind PR w) (kvT ax az as) ∧ as.length = i ∧ TabOK w tl es ax az as ∧ (∀ p ∈ rest, p ∈ tl) ∧ (∀ p ∈ tl, p.1 ≠ j)) () (by rfl) lR' (by omega) lF' ?hNz ⟨_, [], _, rfl, ?l2, hd9, rfl, ⟨⟨dx, dmx, tx, ?l4, ?l5⟩, ⟨dz, dmz, tz, ?l6, ?l7⟩, fun _ _ hz => nomatch hz⟩, ?l8, ?l9⟩ ?l1 ?turn ?done
    case hNz => exact news_sub lN' (by k_extra "sub9")
    case l1 => k_extra "one9"
    case l2 => k_extra "nes8"
    case l4 => k_extra "mem9"
    case l5 => k_extra "mem9"
    case l6 => k_extra "mem9"
    case l7 => k_extra "mem9"
    case l8 => k_extra "sub9"
    case l9 => k_extra "nes8"
    case turn =>
      rintro i' ⟨⟩ nx' tt' u' h' tk' own' hi' hoff' ⟨od, as, tl, rfl, q1, q2, q3, q4, q5, q7⟩ F' N'
      clear lF' lN'
      subst q3
      have hl12 := hP.len
      have q12 : as.length < 12 := by omega
      rw [List.cons_append, List.cons_append] at N'
      have hoj : ∀ p ∈ own', p.1 ≠ j := fun p hp => hoff' p hp _ (.tail _ (.head _))
      have hos : ∀ p ∈ own', p.1 ≠ sy := fun p hp => hoff' p hp _ (.head _)
      obtain ⟨vi, hvi⟩ : ∃ v, vs[as.length]? = some v := ⟨vs[as.length]'(by omega), by simp⟩
      obtain ⟨ei, hei, hdi⟩ := datAll_get r3 hvi
      have hbl : (bl, listOf vs.toArray nb) ∈ tl := q5 _ r2
      have hsz : (kvT ax az as).length ≤ sizeLine := by rw [kvT_len, sizeLine_eq]; omega
      have hvh := hdi.handed
      try k_extra "fold9"
      k_steps
      rw [fnm_int (x := (as.length : Int)) (i := as.length) rfl q12, fk_val q12]
      refine Stop.on ?_
      k_dflt (refine tel_law (by k_asm) (by k_asm) (by k_asm) (by rfl) (by k_asm) (mk_symbol _ _ _ _) (by decide) (by decide) ?_ (fun h9 => h9.elim))
      rintro r6 news6 h6 tk6 F6 N6 ⟨af, df, dmf, tf, rfl, rfl, f1, f2, f3⟩
      have hoa : ∀ p ∈ own', p.1 ≠ af := fun p hp => Nat.ne_of_lt (Nat.lt_trans (f1 p (.tail _ (.tail _ (List.mem_append_right _ hp)))) f2)
      k_lt f1
      k_lt2 f2
      k_lt2 f3
      k_extra "and9"
      k_steps
      k_extra "and9"
      rename Obj.IsDictOf _ _ (stored _ _ _) => hd8
      rw [kvT_stored q12] at hd8
      rename News _ _ _ _ => N9
      with_unfolding_all refine' LJ.finA ((sy, ?od) :: (j, listOf (.int c9 t9 :: jvs).toArray n9) :: ([(?tp, tupO [.ref ?dl, vi] 0), (?dl, listOf [.str (nmS false) ?tx].toArray 0), (af, instObj 324 df), (df, symD w (fnm as.length) "stfunc" (.ref ?tp) dmf (mk13 _ _ _ _ _ _ _ _ _ _ _ _ _) 9)] ++ tl)) () (by assumption) N9 ?s1 ?s2 ?off ⟨?od, as ++ [af], _, rfl, ?a1, hd8, ?a2, ?a3, ?a4, ?a5⟩ ?one ?same
      case s1 => (dsimp only [List.cons_append, List.nil_append]; k_extra "sub9")
      case s2 => k_extra "sub9"
      case off => (dsimp only [List.cons_append, List.nil_append]; refine off_of ?_; repeat' (first | exact offL_nil | (refine' offL_cons ?o9 ?_; (case o9 => k_extra "ne9")) | (refine' offL_sub ?h9 ?s9; (case h9 => assumption); (case s9 => k_extra "sub9")) | refine' offL_app ?_ ?_))
      case a1 => (dsimp only [List.cons_append, List.nil_append]; k_extra "nes8")
      case a2 => simp
      case a5 => (dsimp only [List.cons_append, List.nil_append]; k_extra "nes8")
      case a3 =>
        dsimp only [List.cons_append, List.nil_append]
        exact (q4.mono (by k_extra "sub9")).snoc hei ⟨df, dmf, _, .tail _ (.tail _ (.head _)), .tail _ (.tail _ (.tail _ (.head _)))⟩ (.head _) (.tail _ (.head _)) (hdi.mono fun p hp => List.mem_cons_of_mem _ (List.mem_cons_of_mem _ (List.mem_cons_of_mem _ (List.mem_cons_of_mem _ (q5 p hp)))))
      case a4 => exact fun p hp => List.mem_append_right _ (q5 p hp)
      case one => exact List.forall_mem_nil _
      case same => k_extra "same9"
    case done =>
      rintro ⟨⟩ nx' u' h' tk' ⟨od, as, tl, rfl, q1, q2, q3, q4, q5, q7⟩ F' N'
      clear lF' lN'
      k_steps
      refine Stop.on ?_
      rename Fr _ _ _ _ => lF'
      (with_unfolding_all refine' For_invVF lF' ?k1z ?k2z ?_; (case k1z => exact rfl); (case k2z => exact rfl); k_whole)
      k_steps
      refine Stop.on ?_
      rename Fr _ _ _ _ => lF'
      rename News _ _ _ _ => lN'
      have hnd := kvs_nodup q2
      with_unfolding_all refine' loop_keys (σ := Unit) (fun _ => []) [] (fun _ _ nx => KeepR w sy od ((sy, od) :: (j, listOf (.int c9 t9 :: jvs).toArray n9) :: tl) nx) () (by rfl) (List.mem_cons_self (a := (sy, od)) (l := (j, listOf (.int c9 t9 :: jvs).toArray n9) :: tl)) q2 lo9 lF' lN' (KeepR.refl List.mem_cons_self) ?l1 ?turn ?done
      case l1 => exact List.forall_mem_nil _
      case turn =>
        rintro i' ⟨⟩ nx' k' y' tt' u' h' tk' own' hx' hoff' hdn' K' F' N'
        clear lF' lN'
        obtain ⟨a', use', val', rfl, ds', dm', t', m1', m2'⟩ := kvT_at (K'.tab (q4.mono fun p hp => .tail _ (.tail _ hp))) hx'
        have hva' := valueAt_of_get hnd hx'
        have Nn' : News _ _ _ nx' := news_sub N' fun p hp => List.mem_append_left own' hp
        have ha' := neN (inst_ne Nn' m1' m2')
        have hs' := neN (keep_turn (t' := t') Nn' m2' hdn' q2).1
        have K2' := fun t'' => (keep_turn (t' := t'') Nn' m2' hdn' q2).2
        have ho' : ∀ p ∈ own', p.1 ≠ ds' := fun p hp => hoff' p hp _ (List.mem_map.mpr ⟨_, m2', rfl⟩)
        obtain ⟨r1, N1, e1, e2, e3⟩ := pull N' (List.mem_append_left own' m2')
        have w1 : (a', instObj 324 ds') ∈ r1 := e2 _ (List.mem_append_left _ m1') (inst_ne Nn' m1' m2')
        have w2 : (sy, od) ∈ r1 := e2 _ (List.mem_append_left _ hdn') (keep_turn (t' := t') Nn' m2' hdn' q2).1
        clear N'
        refine' addN [(a', instObj 324 ds'), (sy, od)] N1 ?ksz ?_
        case ksz => k_extra "mems9"
        clear N1
        intro N1
        dsimp only [List.cons_append, List.nil_append] at N1
        try k_extra "fold9"
        k_steps
        rename News _ _ _ _ => N9
        with_unfolding_all refine' LJ.finS ((ds', symD w k' use' val' dm' (mk13 _ _ _ _ _ _ _ _ _ _ _ _ _) 9) :: cutD ds' nx') () (by assumption) N9 ?s1 ?s2 ?off ?hq (K'.trans (K2' _)) ?one ?same
        case s1 => exact List.forall_mem_cons.mpr ⟨by k_mem, fun p hp => .tail _ (.tail _ (.tail _ (e2 p (List.mem_append_left _ (cutD_mem.mp hp).1) (cutD_mem.mp hp).2)))⟩
        case s2 => exact fun p hp => .tail _ (.tail _ (.tail _ (e2 p (List.mem_append_right _ hp) (ho' p hp))))
        case off => exact off_of (offL_cons ho' fun p hp q hq => hoff' p hp _ (List.mem_map.mpr ⟨q, (cutD_mem.mp hq).1, rfl⟩))
        case hq => exact (K2' _).two
        case one => exact List.forall_mem_nil _
        case same => k_extra "same9"
      case done =>
        rintro ⟨⟩ nx' u' h' tk' K' F' N'
        clear lF' lN'
        obtain ⟨S, NS, s1, s2, s3⟩ := pull N' (K'.one _ (.tail _ (.head _)) (by simp [W.listOf]))
        have sD : ∀ p ∈ tl, isDat p.2 → p ∈ S := fun p hp h => s2 p (K'.dat p (.tail _ (.tail _ hp)) h) (q7 p hp)
        have sT : TabOK w S es ax az as := q4.move (fun a nm use val h => (K'.three _ _ _ _ (h.mono fun p hp => .tail _ (.tail _ hp))).pull N' (K'.one _ (.tail _ (.head _)) (by simp [W.listOf])) s2) sD
        have sy2 : (sy, od) ∈ S := s2 _ K'.two (by dsimp only; k_ne)
        have sB : (bl, listOf vs.toArray nb) ∈ S := sD _ (q5 _ r2) (.inr rfl)
        have sV := DatAll.data (fun p hp h => sD p (q5 p hp) h) r3
        have sE := hdue.data (fun p hp h => sD p (q5 p hp) h)
        clear N' K'
        k_steps
        refine Stop.on ?_
        have hl12 := hP.len
        k_dflt (refine len_at (k := es.length) (by k_asm) (by k_mem) hlen (by omega) ?_)
        k_steps
        rename News _ _ _ _ => lN'
        rw [fnm_int (x := (es.length : Int) - 1) (i := es.length - 1) (by omega) (by omega)] at lN'
        refine name1 lN' fun tr etr => ?_
        subst etr
        k_extra "and9"
        have N5 : News _ _ _ ((j, listOf (.int c9 t9 :: jvs).toArray n9) :: (tr, tupO [.str (Str.ofString "ref") _, .str (fnm (fk (es.length - 1)).val) _, .ref _] 0) :: (_, listOf [.ref _].toArray 0) :: (_, tupO [.str (Str.ofString "name") _, .str (nmS true) _] 0) :: S) := news_sub lN' (by k_extra "sub9")
        clear lN'
        refine Stop.on ?_
        k_dflt (refine tel_law (by k_asm) (by k_asm) (by k_asm) (by rfl) N5 (spoon w j c9 3 t9 _ jvs _ n9 _ (by k_extra "nes8") hi hc0 (by omega) hl (by decide) (by decide)) (by decide) (by decide) ?_ (fun h9 => h9.elim))
        rintro r9 news9 h9 tk9 F9 N9 ⟨x9, tr9, t9', rfl, hx0, hx1, rfl⟩
        obtain ⟨S5, N6, u1, u2⟩ : ∃ S5, News _ _ h9 S5 ∧ (∀ p ∈ S, p ∈ S5) ∧ DatIn S5 (.ref tr) (baseE es.length).dat := ⟨_, news_sub N9 (fun p hp => .tail _ hp), by k_extra "sub9", by
          rw [baseE, Ex.dat, Ex.dat]
          exact .tuple List.mem_cons_self (.cons (.str _ _) (.cons (.str _ _) (.cons (.list (List.mem_cons_of_mem _ List.mem_cons_self) (.cons (.tuple (List.mem_cons_of_mem _ (List.mem_cons_of_mem _ List.mem_cons_self)) (.cons (.str _ _) (.cons (.str _ _) .nil))) .nil)) .nil)))⟩
        clear N9 N5
        k_with "exec If" => ((fail_if_success (with_reducible show wpAny _ _ _ (Mid3 _ _ _ _ _ _ _) _ _)); (fail_if_success (with_reducible show wpAny _ _ _ (Mid4 _ _ _ _ _ _ _ _) _ _)); (with_reducible show wpAny _ _ (exec (Stmt.If _ _ (_ :: _) _) _) _ _ _); refine Stop.out ?_)
        k_steps
        refine Stop.on ?_
        k_dflt (refine' join3 (S := S5) (n := es.length) (x := x9) ?F ?h1 ?h2; (case F => k_asm))
        case h1 =>
          k_steps
          · rename x9 = 1 => e1
            exact ⟨_, _, _, _, rfl, rfl, by assumption, by assumption, by k_extra "sub9", way1_dat (u2.mono (by k_extra "sub9")) (.head _) e1⟩
          · rename x9 = 2 => e2
            rename x9 ≠ 1 => e1
            exact ⟨_, _, _, _, rfl, rfl, by assumption, by assumption, by k_extra "sub9", way2_dat (u2.mono (by k_extra "sub9")) (.head _) (.tail _ (.head _)) (.tail _ (.tail _ (.head _))) (.tail _ (.tail _ (.tail _ (.head _)))) e1 e2⟩
          · rename x9 ≠ 1 => e1
            rename x9 ≠ 2 => e2
            exact ⟨_, _, _, _, rfl, rfl, fr_same (by assumption) (if_pos rfl), by assumption, by k_extra "sub9", by rw [wayE, if_neg e1, if_neg e2]; exact u2.mono (by k_extra "sub9")⟩
        case h2 =>
          intro tv S6 h6 tk6 F6 N6 v1 v2
          dsimp only at F6
          k_steps
          refine Stop.on ?_
          obtain ⟨b0, f0, hb0, hf0⟩ := hP.first
          obtain ⟨a0, vs0, rfl, hv0⟩ := head_at sV hb0
          k_dflt (refine' join4 (S := S6) (es := es) (due := due) (x := x9) ?F ?h1 ?h2; (case F => k_asm))
          case h1 =>
            have sB6 := v1 _ (u1 _ sB)
            have hv6 := hv0.mono fun p hp => v1 _ (u1 _ hp)
            have sE6 := sE.mono fun p hp => v1 _ (u1 _ hp)
            rcases due with _ | ty
            · obtain rfl : dv = .none := sE
              k_steps
              refine ⟨_, _, none, _, _, _, rfl, rfl, fr_same2 (by assumption) rfl, by assumption, by k_extra "sub9", ?_, rfl⟩
              by_cases e1 : x9 = 1
              · exact .inl ⟨e1, rfl⟩
              · by_cases e2 : x9 = 2
                · exact .inr (.inl ⟨e2, b0, f0, hb0, hf0, rfl⟩)
                · exact .inr (.inr ⟨e1, e2, rfl⟩)
            · obtain ⟨da, rfl⟩ := Ty.hin sE
              k_with "sub!" => refine Stop.out ?_
              k_with "eq!" => refine Stop.out ?_
              k_steps
              · rename x9 = 1 => e1
                exact ⟨_, _, some (.ng ty), _, _, _, rfl, rfl, fr_due (by assumption), by assumption, by k_extra "sub9", .inl ⟨e1, rfl⟩, due_neg (sE6.mono (by k_extra "sub9")) (.head _)⟩
              · rename x9 = 2 => e2
                refine Stop.on ?_
                k_dflt (refine item_nat (i := 0) (vs := .ref a0 :: vs0) (by k_asm) (by k_mem) rfl (by omega) ?_ (by with_unfolding_all rfl) (by intro _; with_unfolding_all rfl))
                k_steps
                refine Stop.on ?_
                rename News _ _ _ _ => lN'
                k_dflt (refine real_eq (e := b0) lN' (hv6.mono (by k_extra "sub9")) (.head _) (by k_units) ?_)
                rcases hf0 with ⟨rfl, rfl⟩ | ⟨wr, hwr, rfl, rfl⟩
                · rw [real_yes]
                  k_steps
                  exact ⟨_, _, some (.bi false ty .one), _, _, _, rfl, rfl, by assumption, by assumption, by k_extra "sub9", .inr (.inl ⟨e2, _, _, hb0, .inl ⟨rfl, rfl⟩, rfl⟩), due_mul (DueAt.mono (d := some ty) (by k_extra "sub9") sE6) kone_at (.head _)⟩
                · rw [real_no]
                  k_steps
                  refine Stop.on ?_
                  k_dflt (refine item_nat (i := 0) (vs := .ref a0 :: vs0) (by k_asm) (by k_mem) rfl (by omega) ?_ (by with_unfolding_all rfl) (by intro _; with_unfolding_all rfl))
                  k_steps
                  refine Stop.on ?_
                  k_dflt (refine tel_law (by k_asm) (by k_asm) (by k_asm) (by rfl) (by k_asm) (count w _ false wr (by omega) _ (hv6.mono (by k_extra "sub9"))) (by decide) (by decide) ?_ (fun h9 => h9.elim))
                  rintro r7 news7 h7 tk7 F7 N7 ⟨rfl, t7, rfl⟩
                  k_steps
                  refine Stop.on ?_
                  k_dflt (refine tel_law (by k_asm) (by k_asm) (by k_asm) (by rfl) (by k_asm) (typed_below w _ .var _ wr (by omega) _ _ (fun p hp => hp) (var_in (.head _))) (by decide) (by decide) ?_ (fun h9 => h9.elim))
                  rintro r8 news8 h8 tk8 F8 N8 ⟨tl8, rfl, hoff8, hd8⟩
                  have hh8 := DatIn.handed hd8
                  k_steps
                  exact ⟨_, _, some (.bi false ty (belT wr .var)), _, _, _, rfl, rfl, by assumption, by assumption, by k_extra "sub9", .inr (.inl ⟨e2, _, _, hb0, .inr ⟨wr, hwr, rfl, rfl⟩, rfl⟩), due_mul (DueAt.mono (d := some ty) (by k_extra "sub9") sE6) (DueAt.mono (d := some (belT wr .var)) (by k_extra "sub9") hd8) (.head _)⟩
              · rename x9 ≠ 1 => e1
                rename x9 ≠ 2 => e2
                refine ⟨_, _, some ty, _, _, _, rfl, rfl, fr_same2 (by assumption) ?_, by assumption, by k_extra "sub9", .inr (.inr ⟨e1, e2, rfl⟩), sE6⟩
                exact rfl
          case h2 =>
            intro dv7 u7 due7 S7 h7 tk7 F7 N7 w1 hW hD7
            try dsimp only at F7
            have hh7 := hD7.hand
            have X9 : (hd.heap_39 w.params).In h7 := Frag.In.keeps (by with_reducible assumption) (Fr.keep F7)
            k_with "~callWith ref" => (k_here; k_dflt (refine' callWith_K0 ?q1 ?q2 ?_; (case q1 => exact X9); (case q2 => k_is); k_whole))
            k_steps
            clear X9
            refine Stop.on ?_
            k_dflt (refine tel_law (by k_asm) (by k_asm) (by k_asm) (by rfl) (by k_asm) (mk_limits w _) (by decide) (by decide) ?_ (fun h9 => h9.elim))
            rintro r8 news8 h8 tk8 F8 N8 ⟨lim, tl8, rfl, rfl, hlim⟩
            k_steps
            refine Stop.on ?_
            k_dflt (refine tel_law (by k_asm) (by k_asm) (by k_asm) (by rfl) (by k_asm) (mk_scope w sy lim _) (by decide) (by decide) ?_ (fun h9 => h9.elim))
            rintro r9' news9' h9' tk9' F9' N9' ⟨sc, gv, op, sp, tc, tl9, rfl, rfl, hsp, hsco, hgv, hop⟩
            have up : ∀ p ∈ S6, p ∈ tl9 ++ (tl8 ++ S7) := fun p hp => List.mem_append_right _ (List.mem_append_right _ (w1 p hp))
            have up5 : ∀ p ∈ S, p ∈ tl9 ++ (tl8 ++ S7) := fun p hp => up p (v1 p (u1 p hp))
            have up9 : ∀ p ∈ tl9, p ∈ tl9 ++ (tl8 ++ S7) := fun p hp => List.mem_append_left _ hp
            have sS := hsco.mono up9
            have sG := hgv.mono up9
            have sL := hlim.mono fun p hp => List.mem_append_right tl9 (List.mem_append_left S7 hp)
            have sY := (sT.syms q3 (kvs_nodup q2)).mono up5
            have sD' := v2.mono up
            have sO := up9 _ hop
            obtain ⟨r', hEv, hdue', hlev⟩ := plain hP hW
            k_steps
            refine Stop.on ?_
            k_dflt (refine tel_law (by k_asm) (by k_asm) (by k_asm) (by rfl) (by k_asm) (ev_tel w _ sy lim sp (kvT ax az as) hEv _ tv sc tc 0 ⟨gv, op, [], [], 0, sS, sG, rfl, sO, .nil⟩ ⟨od, up5 _ sy2, q2, lo9⟩ sY sL sD' hsp) (by decide) (by decide) ?_ ?_)
            · rintro r10 news10 h10 tk10 F10 N10 ⟨t, c, tl, tc', nn, rfl, rfl, hoff, hoff2, hdr⟩
              obtain rfl : due7 = some t := hdue'
              obtain ⟨ra, rfl⟩ := Ty.hin hdr
              obtain ⟨da, rfl⟩ := due_ref hD7
              k_steps
              refine Stop.on ?_
              k_dflt (refine due_eq (t := t) F10 (by k_asm) N10 (hdr.mono fun p hp => .tail _ hp) (DueAt.mono (d := some t) (fun p hp => .tail _ (List.mem_append_right _ (List.mem_append_right _ (List.mem_append_right _ hp)))) hD7) (hlev _ _ rfl) (by k_units) ?_)
              k_steps
            · rintro rfl e9 h10 tk10 R9
              obtain rfl : due7 = none := hdue'
              obtain rfl : dv7 = .none := hD7
              k_dflt (refine caught_fault KB R9 (by k_asm) (by k_asm) ?_)
              intro h11 F11
              k_steps))
end Mine
set_option maxRecDepth 100000 in
theorem PySem.Challenge.cw_pq0356_01_holds : PySem.Challenge.rw_pq0356_01.Holds := by
  exact Mine.lw
