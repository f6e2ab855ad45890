import PyProof.Rows.All
import Wide.All
import OpenK.AllK
import Wide.FinOn
import PySem.Challenge.RW_rr0019_01
open PySem PySem.W PyProof.Rows
set_option Elab.async false
set_option maxRecDepth 100000
set_option maxHeartbeats 8000000
set_option rowWalk.seconds 0
namespace Mine
theorem tab_same : treeTable = treeTable := rfl
name_quick tw8075568018651887793 for PySem.treeTable by Mine.tab_same
name_quick tw17094633900937708471 for PySem.treeTable by Mine.tab_same
name_quick tw14979626087600564940 for PySem.treeTable by Mine.tab_same
name_quick tw12464614178423355971 for PySem.treeTable by Mine.tab_same
name_quick tw7398270241245271220 for PySem.treeTable by Mine.tab_same
name_quick tw4919607303878514444 for PySem.treeTable by Mine.tab_same
name_quick tw868157144444988819 for PySem.treeTable by Mine.tab_same
name_quick tw12516557036555375146 for PySem.treeTable by Mine.tab_same
name_quick tw17804504610050584030 for PySem.treeTable by Mine.tab_same
name_quick tw17517737089405305841 for PySem.treeTable by Mine.tab_same
name_quick tw9979284746773624096 for PySem.treeTable by Mine.tab_same
name_quick tw12529633836043197938 for PySem.treeTable by Mine.tab_same
name_quick tw14311459727803291754 for PySem.treeTable by Mine.tab_same
name_quick tw9458956999447867950 for PySem.treeTable by Mine.tab_same
name_quick tw17804436615005485693 for PySem.treeTable by Mine.tab_same
name_quick tw5673025641062948296 for PySem.treeTable by Mine.tab_same
name_quick tw14761518105344179592 for PySem.treeTable by Mine.tab_same
name_quick tw12268644228514654432 for PySem.treeTable by Mine.tab_same
name_quick tw3764465048917985505 for PySem.treeTable by Mine.tab_same
name_quick tw3093977132361051618 for PySem.treeTable by Mine.tab_same
name_quick tw387338674003428930 for PySem.treeTable by Mine.tab_same
name_quick tw7250012664060256230 for PySem.treeTable by Mine.tab_same
name_quick tw18260038339965228139 for PySem.treeTable by Mine.tab_same
name_quick tw1620339239838986703 for PySem.treeTable by Mine.tab_same
name_quick tw10706342367453228570 for PySem.treeTable by Mine.tab_same
name_quick tw14433975572909055671 for PySem.treeTable by Mine.tab_same
name_quick tw11130039905162102590 for PySem.treeTable by Mine.tab_same
name_quick tw11939915149646268982 for PySem.treeTable by Mine.tab_same
name_quick tw2478078296215019888 for PySem.treeTable by Mine.tab_same
name_quick tw11306939235166856333 for PySem.treeTable by Mine.tab_same
name_quick tw17164873540382356111 for PySem.treeTable by Mine.tab_same
name_quick tw16966814322356759819 for PySem.treeTable by Mine.tab_same
name_quick tw11333186260410459676 for PySem.treeTable by Mine.tab_same
name_quick tw4978915544186085027 for PySem.treeTable by Mine.tab_same
name_quick tw12172078356533094185 for PySem.treeTable by Mine.tab_same
name_quick tw6122645084068987007 for PySem.treeTable by Mine.tab_same
name_quick tw8098380416015320538 for PySem.treeTable by Mine.tab_same
name_quick tw7304268236622374541 for PySem.treeTable by Mine.tab_same
name_quick tw9787463984185863102 for PySem.treeTable by Mine.tab_same
name_quick tw15560500314895047343 for PySem.treeTable by Mine.tab_same
name_quick tw10010936943081839664 for PySem.treeTable by Mine.tab_same
name_quick tw11445135464325071761 for PySem.treeTable by Mine.tab_same
name_quick tw1537898542681612871 for PySem.treeTable by Mine.tab_same
name_quick tw9136488742655976645 for PySem.treeTable by Mine.tab_same
name_quick tw460243522976405022 for PySem.treeTable by Mine.tab_same
name_quick tw18350330562280901221 for PySem.treeTable by Mine.tab_same
name_quick tw10887116778572429059 for PySem.treeTable by Mine.tab_same
name_quick tw3039592710220408265 for PySem.treeTable by Mine.tab_same
name_quick tw15663404670287596823 for PySem.treeTable by Mine.tab_same
name_quick tw4292500188555128830 for PySem.treeTable by Mine.tab_same
name_quick tw5200128776193632040 for PySem.treeTable by Mine.tab_same
name_quick tw17532718790514356516 for PySem.treeTable by Mine.tab_same
name_quick tw6817277305950994716 for PySem.treeTable by Mine.tab_same
name_quick tw15007238320947547705 for PySem.treeTable by Mine.tab_same
name_quick tw11543547407058413889 for PySem.treeTable by Mine.tab_same
name_quick tw3976722010076183465 for PySem.treeTable by Mine.tab_same
name_quick tw5111356299099525756 for PySem.treeTable by Mine.tab_same
name_quick tw15066959818950650227 for PySem.treeTable by Mine.tab_same
name_quick tw636462944352149979 for PySem.treeTable by Mine.tab_same
name_quick tw1291980286583624508 for PySem.treeTable by Mine.tab_same
name_quick tw10948738476641704880 for PySem.treeTable by Mine.tab_same
name_quick tw4039474712603431140 for PySem.treeTable by Mine.tab_same
name_quick tw6245536207120538393 for PySem.treeTable by Mine.tab_same
name_quick tw704327219915372674 for PySem.treeTable by Mine.tab_same
name_quick tw13145125596335152023 for PySem.treeTable by Mine.tab_same
name_quick tw4011157648589011858 for PySem.treeTable by Mine.tab_same
name_quick tw136631920214876835 for PySem.treeTable by Mine.tab_same
name_quick tw5978237884098788730 for PySem.treeTable by Mine.tab_same
name_quick tw16018607276475445134 for PySem.treeTable by Mine.tab_same
name_quick tw4549333791460862111 for PySem.treeTable by Mine.tab_same
name_quick tw15766043655864335149 for PySem.treeTable by Mine.tab_same
name_quick tw11270796479367742343 for PySem.treeTable by Mine.tab_same
name_quick tw13615603153576403970 for PySem.treeTable by Mine.tab_same
name_quick tw15742981410569661332 for PySem.treeTable by Mine.tab_same
name_quick tw16697116713213952808 for PySem.treeTable by Mine.tab_same
name_quick tw5706481520468235054 for PySem.treeTable by Mine.tab_same
name_quick tw1092655722715705105 for PySem.treeTable by Mine.tab_same
name_quick tw6550987210724342151 for PySem.treeTable by Mine.tab_same
name_quick tw12237943961548833269 for PySem.treeTable by Mine.tab_same
name_quick tw3131671291697673992 for PySem.treeTable by Mine.tab_same
name_quick tw8642067239939848140 for PySem.treeTable by Mine.tab_same
name_quick tw7401281599722004195 for PySem.treeTable by Mine.tab_same
name_quick tw2039238271031011813 for PySem.treeTable by Mine.tab_same
name_quick tw10424941004445345732 for PySem.treeTable by Mine.tab_same
name_quick tw3442601649717412197 for PySem.treeTable by Mine.tab_same
name_quick tw11636919720809706868 for PySem.treeTable by Mine.tab_same
name_quick tw4224760802259116069 for PySem.treeTable by Mine.tab_same
name_quick tw2408619945344806742 for PySem.treeTable by Mine.tab_same
name_quick tw9529234661008812162 for PySem.treeTable by Mine.tab_same
name_quick tw10323183001455561277 for PySem.treeTable by Mine.tab_same
open_top hd for PySem.Challenge.rw_rr0019_01
abbrev Claim (w : World) (mean : ExcName → Option Value) (mg mb : Str → Option Value) (n : Nat) (news : List (Addr × Obj)) (f : Addr) (vs : List Value)
    (C : Heap → Addr → (Str → Option Value) → Shared → (Value → Shared → Prop) → Prop) : Prop :=
  ∀ (dp un : Nat) (gd : Option (List Code)) (cn : Str) (cs : Scope) (a : Addr) (ccd : Value) (cl : List (Str × Addr)) (outer : List Env) (A₀ : Around) (base h₀ : Heap) (L : Addr) (m : Str → Option Value) (s : Shared) (Q E : Value → Shared → Prop),
    Below A₀ base outer h₀ → Fr h₀ L s.heap m → (hd.heap_39 w.params).In h₀ → News h₀ L s.heap news → Top hd.view_39 (looseW hd.view_39 []) mean mg mb h₀ → cs.kind = .function → dp + n < recursionLimit → un + 8 * n < cLine →
    C h₀ L m s Q → wpAny (model PySem.Challenge.rw_rr0019_01.row.prog w) (ktrTop dp un gd cn cs L a ccd cl outer) (call (.ref f) vs) Q E s
abbrev tokD (w : World) (l : Addr) (at' o : Int) (k1 k2 k3 ta to' : Tok) : Obj :=
  dictOf [⟨PyData.keyHash w.params (Str.ofString "codes"), .str (Str.ofString "codes") k1, .ref l⟩, ⟨PyData.keyHash w.params (Str.ofString "at"), .str (Str.ofString "at") k2, .int at' ta⟩, ⟨PyData.keyHash w.params (Str.ofString "origin"), .str (Str.ofString "origin") k3, .int o to'⟩] 3
/-- a value comes back, the ledger as it was -/
abbrev Back (R : Tok → Value) (news : List (Addr × Obj)) (h₀ : Heap) (L : Addr) (m : Str → Option Value) (s : Shared) (Q : Value → Shared → Prop) : Prop :=
  ∀ (t : Tok) (h' : Heap) (tk' : Nat), Fr h₀ L h' m → News h₀ L h' news → Q (R t) { s with heap := h', toks := tk' }
def hdC (r : List Int) : Int := r.headD (-1)
def codeAt (codes : List Int) (i : Int) : Int := hdC (codes.drop i.toNat)

def isLayout (c : Int) : Bool := c == 32 || (decide (9 ≤ c) && decide (c ≤ 13))
def isDigit (c : Int) : Bool := decide (48 ≤ c) && decide (c ≤ 57)
def isSmall (c : Int) : Bool := decide (97 ≤ c) && decide (c ≤ 122)
def isCapital (c : Int) : Bool := decide (65 ≤ c) && decide (c ≤ 90)
def isAlnum (c : Int) : Bool := isSmall c || isCapital c || isDigit c || c == 95
def digitValue (c : Int) : Int := if isDigit c then c - 48 else if isSmall c then c - 87 else if isCapital c then c - 55 else -1
def symCodes : List Int := [43, 45, 42, 47, 92, 94, 60, 62, 61, 126, 58, 46, 63, 64, 35, 38, 36]
def isSymbol (c : Int) : Bool := symCodes.contains c

/-- what every text of the law has: signs in range, a backslash before a q, a nought with its quote before a dot -/
structure Good (codes : List Int) : Prop where
  low : ∀ c ∈ codes, c = 10 ∨ (32 ≤ c ∧ c ≤ 233 ∧ c ≠ 127)
  size : codes.length < 200
  esc : ∀ i : Nat, codes.getD i 0 = 92 → codes.getD (i + 1) 0 = 113
  nought : ∀ i : Nat, codes.getD i 0 = 48 → codes.getD (i + 1) 0 = 39 ∧ codes.getD (i + 2) 0 = 46

theorem codeAt_in {codes : List Int} {i : Int} (h : i < codes.length) (h0 : 0 ≤ i) : codeAt codes i = codes.getD i.toNat 0 := by
  have hi : i.toNat < codes.length := by omega
  unfold codeAt hdC
  rw [List.headD_eq_head?_getD, List.head?_drop, List.getD_eq_getElem?_getD, List.getElem?_eq_getElem hi]; rfl
theorem codeAt_out {codes : List Int} {i : Int} (h : codes.length ≤ i) : codeAt codes i = -1 := by
  have hi : codes.length ≤ i.toNat := by omega
  unfold codeAt hdC
  rw [List.drop_eq_nil_of_le hi]; rfl
theorem Good.range {codes : List Int} (G : Good codes) {j : Nat} (h : j < codes.length) : codes.getD j 0 = 10 ∨ (32 ≤ codes.getD j 0 ∧ codes.getD j 0 ≤ 233 ∧ codes.getD j 0 ≠ 127) := by
  rw [List.getD_eq_getElem?_getD, List.getElem?_eq_getElem h]
  exact G.low _ (List.getElem_mem h)


local macro_rules | `(tactic| walk_at "call ref") => `(tactic| k_extra "call ref")
local macro_rules | `(tactic| k_room) => `(tactic| ktr_room)
local macro_rules | `(tactic| k_units) => `(tactic| ktr_units)
local macro_rules | `(tactic| k_enter) => `(tactic| (refine' code_def ?k1 ?k2 ?k3 ?k4 ?k5 ?kA ?kF ?kK ?k6 ?k7 ?k8 ?k9 ?kB ?_ ?c2 ?c3 ?c4 ?c5; (case kA => exact rfl); (case kF => exact rfl); (case kK => first | exact rfl | assumption); (case k1 => k_asm); (case k2 => k_asm); (case k3 => k_asm); (case k4 => k_asm); (case k5 => k_asm); (case k6 => k_is); (case k7 => k_is); (case k8 => ktr_room); (case k9 => first | exact BindsTo.of_eq rfl | exact binds_K (by k_in) rfl (by k_is) rfl rfl rfl); (case c5 => decide); (case kB => exact locs rfl); (case c2 => exact rfl); (case c3 => exact rfl); (case c4 => exact rfl); k_whole; intro g' L' h' FG' F' N' B' X' T'; (try dsimp only); (try k_lift B'); (try k_fold)))
local macro_rules | `(tactic| news_mem) => `(tactic| k_mem)
local macro_rules | `(tactic| walk_at "exec While") => `(tactic| k_extra "exec While")
local macro_rules | `(tactic| walk_at "ite") => `(tactic| (k_here; k_openite; k_spoken; first | (refine ite_neg (by law_purse 20000 => (law_clear; simp only [beq_iff_eq]; omega)) ?_; walk_say "PRUNED eq") | (refine ite_pos (by law_purse 20000 => (law_clear; simp only [beq_iff_eq]; omega)) ?_; walk_say "PRUNED eq")))
local macro_rules | `(tactic| walk_at "eval ListComp") => `(tactic| k_extra "eval ListComp")
local macro_rules | `(tactic| walk_at "CompSrc") => `(tactic| k_extra "CompSrc")
local macro_rules | `(tactic| walk_at "ite") => `(tactic| (k_closed; k_dflt (first | refine ite_pos (by decide +kernel) ?_ | refine ite_neg (by decide +kernel) ?_)))
local macro_rules | `(tactic| walk_at "exec While BoolOp") => `(tactic| k_extra "exec While")
local macro_rules | `(tactic| walk_at "exec While Compare") => `(tactic| k_extra "exec While")
section
variable {w : World} {mean : ExcName → Option Value} {mg mb : Str → Option Value} {news : List (Addr × Obj)}
theorem c_is_layout (c : Int) (tk : Tok) : Claim w mean mg mb 9 news 53 [.int c tk] (Back (fun _ => .bool (isLayout c)) news) := by
  (unfold Claim; k_fill; w_top off)
  intro dp un gd cn cs a ccd cl outer A₀ base h₀ L m s Q E B F X N T hk hd hu hret
  k_steps
  all_goals (refine' cb_retB (Q := Q) hret ?e1 ?e2 ?e3; (case e2 => k_asm); (case e3 => k_asm); (case e1 => unfold isLayout; first | (simp_all; done) | (simp_all; omega) | grind))
theorem c_is_digit (c : Int) (tk : Tok) : Claim w mean mg mb 9 news 60 [.int c tk] (Back (fun _ => .bool (isDigit c)) news) := by
  (unfold Claim; k_fill; w_top off)
  intro dp un gd cn cs a ccd cl outer A₀ base h₀ L m s Q E B F X N T hk hd hu hret
  k_steps
  all_goals (refine' cb_retB (Q := Q) hret ?e1 ?e2 ?e3; (case e2 => k_asm); (case e3 => k_asm); (case e1 => unfold isDigit; first | (simp_all; done) | (simp_all; omega) | grind))
theorem c_is_small (c : Int) (tk : Tok) : Claim w mean mg mb 9 news 67 [.int c tk] (Back (fun _ => .bool (isSmall c)) news) := by
  (unfold Claim; k_fill; w_top off)
  intro dp un gd cn cs a ccd cl outer A₀ base h₀ L m s Q E B F X N T hk hd hu hret
  k_steps
  all_goals (refine' cb_retB (Q := Q) hret ?e1 ?e2 ?e3; (case e2 => k_asm); (case e3 => k_asm); (case e1 => unfold isSmall; first | (simp_all; done) | (simp_all; omega) | grind))
theorem c_is_capital (c : Int) (tk : Tok) : Claim w mean mg mb 9 news 74 [.int c tk] (Back (fun _ => .bool (isCapital c)) news) := by
  (unfold Claim; k_fill; w_top off)
  intro dp un gd cn cs a ccd cl outer A₀ base h₀ L m s Q E B F X N T hk hd hu hret
  k_steps
  all_goals (refine' cb_retB (Q := Q) hret ?e1 ?e2 ?e3; (case e2 => k_asm); (case e3 => k_asm); (case e1 => unfold isCapital; first | (simp_all; done) | (simp_all; omega) | grind))
theorem c_code_at {t d l : Addr} {its : List Value} {n : Nat} {codes : List Int} {at' o : Int} {k1 k2 k3 ta to' : Tok}
    (hC : Good codes) (hI : IntsAre its codes) (ht : (t, instObj 258 d) ∈ news) (hdt : (d, tokD w l at' o k1 k2 k3 ta to') ∈ news) (hl : (l, listOf its.toArray n) ∈ news) (i : Int) (tk : Tok) (hi : 0 ≤ i) :
    Claim w mean mg mb 9 news 143 [.ref t, .int i tk] (Back (fun t => .int (codeAt codes i) t) news) := by
  (unfold Claim; k_fill; w_top off)
  intro dp un gd cn cs a ccd cl outer A₀ base h₀ L m s Q E B F X N T hk hd hu hret
  have hz := hC.size
  have hg := fun (hx : i < codes.length) => hC.range (j := i.toNat) (by omega)
  k_steps
  all_goals (refine' cb_retI (Q := Q) hret ?e1 ?e2 ?e3; (case e2 => k_asm); (case e3 => k_asm); (case e1 => first | (exfalso; have := hg (by omega); omega) | exact (codeAt_out (by omega)).symm | exact (codeAt_in (by omega) hi).symm))
theorem c_code_at_v {t d l : Addr} {its : List Value} {n : Nat} {codes : List Int} {at' o v : Int} {k1 k2 k3 ta to' : Tok} {i : Int}
    (hv : codeAt codes i = v) (hC : Good codes) (hI : IntsAre its codes) (ht : (t, instObj 258 d) ∈ news) (hdt : (d, tokD w l at' o k1 k2 k3 ta to') ∈ news) (hl : (l, listOf its.toArray n) ∈ news) (tk : Tok) (hi : 0 ≤ i) :
    Claim w mean mg mb 9 news 143 [.ref t, .int i tk] (Back (fun t => .int v t) news) := by
  subst hv
  exact c_code_at hC hI ht hdt hl i tk hi
end


theorem sym_in {c : Int} (h : 0 ≤ c) : (!(Builtin.Str.occurrences (Str.ofString "+-*/\\^<>=~:.?@#&$") { cps := #[c.toNat] } 0 (Str.ofString "+-*/\\^<>=~:.?@#&$").length 1).isEmpty) = isSymbol c := by
  rw [StrLaws.found_one, show (Str.ofString "+-*/\\^<>=~:.?@#&$").cps.toList = [43, 45, 42, 47, 92, 94, 60, 62, 61, 126, 58, 46, 63, 64, 35, 38, 36] from by decide +kernel]
  obtain ⟨n, rfl⟩ := Int.eq_ofNat_of_zero_le h
  rw [Bool.eq_iff_iff]
  unfold isSymbol
  rw [show symCodes = List.map (fun k : Nat => (k : Int)) [43, 45, 42, 47, 92, 94, 60, 62, 61, 126, 58, 46, 63, 64, 35, 38, 36] from rfl, List.contains_iff_mem, List.mem_map]
  simp only [Int.toNat_natCast, decide_eq_true_eq]
  exact ⟨fun q => ⟨n, q, rfl⟩, fun ⟨k, hk, e⟩ => Int.ofNat.inj e ▸ hk⟩
theorem sym_range : ∀ c ∈ symCodes, 0 ≤ c ∧ c < 128 := by decide
theorem sym_out {c : Int} (h : c < 0 ∨ 128 ≤ c) : isSymbol c = false := by
  rw [Bool.eq_false_iff]
  intro q
  have := sym_range c (List.contains_iff_mem.mp q)
  omega
section
variable {w : World} {mean : ExcName → Option Value} {mg mb : Str → Option Value} {news : List (Addr × Obj)}
theorem c_is_alnum (c : Int) (tk : Tok) : Claim w mean mg mb 12 news 81 [.int c tk] (Back (fun _ => .bool (isAlnum c)) news) := by
  (unfold Claim; k_fill; w_top off)
  k_with_none
  k_with "call ref" => (k_here; (with_reducible show wpAny _ _ (call (Value.ref 60) _) _ _ _); k_dflt (refine' c_is_digit _ _ _ _ _ _ _ _ _ _ _ _ _ _ _ _ _ _ _ ?k1 ?k2 ?k3 ?k4 ?k5 ?k6 ?k7 ?k8 ?_; (case k4 => k_asm); (case k1 => k_asm); (case k2 => k_asm); (case k3 => k_asm); (case k5 => k_asm); (case k6 => first | exact rfl | assumption); (case k7 => ktr_room); (case k8 => ktr_units)); intro _ _ _ _ _; (try dsimp only); (try k_sweep))
  k_with "call ref" => (k_here; (with_reducible show wpAny _ _ (call (Value.ref 67) _) _ _ _); k_dflt (refine' c_is_small _ _ _ _ _ _ _ _ _ _ _ _ _ _ _ _ _ _ _ ?k1 ?k2 ?k3 ?k4 ?k5 ?k6 ?k7 ?k8 ?_; (case k4 => k_asm); (case k1 => k_asm); (case k2 => k_asm); (case k3 => k_asm); (case k5 => k_asm); (case k6 => first | exact rfl | assumption); (case k7 => ktr_room); (case k8 => ktr_units)); intro _ _ _ _ _; (try dsimp only); (try k_sweep))
  k_with "call ref" => (k_here; (with_reducible show wpAny _ _ (call (Value.ref 74) _) _ _ _); k_dflt (refine' c_is_capital _ _ _ _ _ _ _ _ _ _ _ _ _ _ _ _ _ _ _ ?k1 ?k2 ?k3 ?k4 ?k5 ?k6 ?k7 ?k8 ?_; (case k4 => k_asm); (case k1 => k_asm); (case k2 => k_asm); (case k3 => k_asm); (case k5 => k_asm); (case k6 => first | exact rfl | assumption); (case k7 => ktr_room); (case k8 => ktr_units)); intro _ _ _ _ _; (try dsimp only); (try k_sweep))
  intro dp un gd cn cs a ccd cl outer A₀ base h₀ L m s Q E B F X N T hk hd hu hret
  k_steps
  all_goals (refine' cb_retB (Q := Q) hret ?e1 ?e2 ?e3; (case e2 => k_asm); (case e3 => k_asm); (case e1 => unfold isAlnum; first | (simp_all; done) | (simp_all; omega) | grind))
theorem c_is_symbol (c : Int) (tk : Tok) : Claim w mean mg mb 9 news 88 [.int c tk] (Back (fun _ => .bool (isSymbol c)) news) := by
  (unfold Claim; k_fill; w_top off)
  intro dp un gd cn cs a ccd cl outer A₀ base h₀ L m s Q E B F X N T hk hd hu hret
  k_steps
  all_goals (refine' cb_retB (Q := Q) hret ?e1 ?e2 ?e3; (case e2 => k_asm); (case e3 => k_asm); (case e1 => first | exact sym_in (by omega) | (rw [sym_out (by omega)]; simp_all; done) | (rw [sym_out (by omega)]; simp_all; omega)))
theorem c_digit_value (c : Int) (tk : Tok) : Claim w mean mg mb 12 news 102 [.int c tk] (Back (fun t => .int (digitValue c) t) news) := by
  (unfold Claim; k_fill; w_top off)
  k_with_none
  k_with "call ref" => (k_here; (with_reducible show wpAny _ _ (call (Value.ref 60) _) _ _ _); k_dflt (refine' c_is_digit _ _ _ _ _ _ _ _ _ _ _ _ _ _ _ _ _ _ _ ?k1 ?k2 ?k3 ?k4 ?k5 ?k6 ?k7 ?k8 ?_; (case k4 => k_asm); (case k1 => k_asm); (case k2 => k_asm); (case k3 => k_asm); (case k5 => k_asm); (case k6 => first | exact rfl | assumption); (case k7 => ktr_room); (case k8 => ktr_units)); intro _ _ _ _ _; (try dsimp only); (try k_sweep))
  k_with "call ref" => (k_here; (with_reducible show wpAny _ _ (call (Value.ref 67) _) _ _ _); k_dflt (refine' c_is_small _ _ _ _ _ _ _ _ _ _ _ _ _ _ _ _ _ _ _ ?k1 ?k2 ?k3 ?k4 ?k5 ?k6 ?k7 ?k8 ?_; (case k4 => k_asm); (case k1 => k_asm); (case k2 => k_asm); (case k3 => k_asm); (case k5 => k_asm); (case k6 => first | exact rfl | assumption); (case k7 => ktr_room); (case k8 => ktr_units)); intro _ _ _ _ _; (try dsimp only); (try k_sweep))
  k_with "call ref" => (k_here; (with_reducible show wpAny _ _ (call (Value.ref 74) _) _ _ _); k_dflt (refine' c_is_capital _ _ _ _ _ _ _ _ _ _ _ _ _ _ _ _ _ _ _ ?k1 ?k2 ?k3 ?k4 ?k5 ?k6 ?k7 ?k8 ?_; (case k4 => k_asm); (case k1 => k_asm); (case k2 => k_asm); (case k3 => k_asm); (case k5 => k_asm); (case k6 => first | exact rfl | assumption); (case k7 => ktr_room); (case k8 => ktr_units)); intro _ _ _ _ _; (try dsimp only); (try k_sweep))
  intro dp un gd cn cs a ccd cl outer A₀ base h₀ L m s Q E B F X N T hk hd hu hret
  k_steps
  all_goals (refine' cb_retI (Q := Q) hret ?e1 ?e2 ?e3; (case e2 => k_asm); (case e3 => k_asm); (case e1 => unfold digitValue; first | (simp_all; done) | (simp_all; omega) | grind))
theorem c_is_quotable (c : Int) (tk : Tok) (h1 : 32 ≤ c) (h2 : c ≤ 233) (h3 : c ≠ 127) : Claim w mean mg mb 9 news 95 [.int c tk] (Back (fun _ => .bool true) news) := by
  (unfold Claim; k_fill; w_top off)
  intro dp un gd cn cs a ccd cl outer A₀ base h₀ L m s Q E B F X N T hk hd hu hret
  k_steps
  all_goals (refine' cb_retB (Q := Q) hret ?e1 ?e2 ?e3; (case e2 => k_asm); (case e3 => k_asm); (case e1 => first | rfl | (simp_all; done) | (simp_all; omega) | grind))
end


def Rest (h : Heap) (as : List Addr) (g : Heap) : Prop := ∀ b o, h.get? b = some o → b ∉ as → g.get? b = some o
section
variable {prog : Program} {w : World} {A A₀ : Around} {s : Shared} {K : Frag} {L : Addr} {h₀ base : Heap} {m mg mb : Str → Option Value} {news : List (Addr × Obj)} {p : Program} {loose : List Str} {mean : ExcName → Option Value}
theorem enter3 {env : Env} {outer : List Env} {R : Result → Shared → Prop} {name qual : Str} {params : Arguments} {body : List Stmt} {scope : Scope} {dV kV doc pm cdv ct oc : Value} {an od : Option Addr} {osl : Array (Option Value)} {f : Addr} {args : Args} {binds : List (Str × Value)}
    (B : Below A₀ base outer h₀) (F : Fr h₀ L s.heap m) (X₀ : K.In h₀) (N : News h₀ L s.heap news) (T : Top p loose mean mg mb h₀) (hA : A.frames = some (env :: outer)) (hf : env.frame = some L) (hke : env.scope.kind = .function)
    (ho : K.lookup f = some ⟨oc, od, .func (fnOf name qual params body scope dV kV doc pm an cdv ct), osl⟩) (hcd : codeIn K cdv qual = true) (hroom : A.depth < recursionLimit)
    (hbind : BindsTo s (fnOf name qual params body scope dV kV doc pm an cdv ct) args binds) (hloc : ∀ y ∈ binds, scope.names.lookup y.1 = some .local)
    (h : ∀ g L' h₁, Rest s.heap (news.map (·.1)) g → Fr h₀ L g m → Fr g L' h₁ (fun y => binds.reverse.lookup y) → News g L' h₁ news → Below A base (env :: outer) g → K.In g → Top p loose mean mg mb g →
      wpAny (model prog w) (A.deeper (envOf qual scope L' f cdv)) (execs body (envOf qual scope L' f cdv))
        (fun fl s' => LeaveK h₀ L m g R (match fl with | .ret v => v | _ => .none) s')
        (fun e s' => wpAny (model prog w) (A.deeper (envOf qual scope L' f cdv)) (leaving (envOf qual scope L' f cdv) e) (fun _ s'' => R (.error e) s'') (fun e' s'' => R (.error e') s'') s')
        { s with heap := h₁, toks := s.toks + binds.length })
    (hco : scope.isCoroutine = false) (hgen : scope.isGenerator = false) (hk : scope.kind = .function)
    (hcell : ∀ x ∈ scope.names, x.2 ≠ .cell) : codeAny (model prog w) A (.call (.ref f) args) R s := by
  obtain ⟨FG, BG, st, lv⟩ := groundX (R := R) B F N hA hf hke
  refine codeAny_call_def (fd := fnOf name qual params body scope dV kV doc pm an cdv ct) (body := body) (binds := binds) hroom ((X₀.keeps F.keep) _ _ ho) rfl (T.nolimit.keeps F.keep) (codeRec_of (X₀.keeps F.keep) hcd) rfl hbind hcell hloc (fun h₁ hns hk₁ => ?_) hco hgen hk
  exact wpAny_mono (h _ s.heap.objs.size h₁ (fun b o e hn => hideAll_get _ e hn) FG ⟨hns, fun b o e => hk₁ b o (of_hideAll _ e), Nat.le_of_eq (hideAll_size _ _)⟩
    (fun p hp => ⟨hk₁ _ _ (N p hp).1, Nat.ne_of_lt (Heap.lt_size (N p hp).1), hideAll_none _ (List.mem_map_of_mem hp)⟩) BG (X₀.keeps st) (T.keeps st)) (fun fl s' hl => lv _ _ hl) fun _ _ y => y
end
/-- the ledger behind a method's call: the dict turned, all the rest as it was -/
theorem back3 {h₀ g h h' : Heap} {L L' : Addr} {m' : Str → Option Value} {m : Str → Option Value} {news news' : List (Addr × Obj)} {t d l : Addr} {ot od od' ol : Obj}
    (hg : Rest h [t, d, l] g) (F' : Fr g L' h' m') (F : Fr h₀ L h m) (N : News h₀ L h news) (U : Upd d od od' news news') (ht : (t, ot) ∈ news) (hl : (l, ol) ∈ news)
    (h1 : h'.get? t = some ot) (h2 : h'.get? d = some od') (h3 : h'.get? l = some ol) : News h₀ L h' news' := by
  obtain ⟨pre, post, rfl, rfl, hp, hq⟩ := U.split
  have key : ∀ p ∈ pre ++ (d, od) :: post, p.1 ≠ d → h'.get? p.1 = some p.2 := fun p hp' hn => by
    have e := (N p hp').1
    by_cases q1 : p.1 = t
    · rw [q1] at e ⊢; rw [h1, ← e, (N _ ht).1]
    by_cases q2 : p.1 = l
    · rw [q2] at e ⊢; rw [h3, ← e, (N _ hl).1]
    exact F'.keep _ _ (hg _ _ e (by simp only [List.mem_cons, List.not_mem_nil, or_false, not_or]; exact ⟨q1, hn, q2⟩))
  intro p hp'
  rcases List.mem_append.mp hp' with q | q
  · have P := N p (List.mem_append_left _ q); exact ⟨key p (List.mem_append_left _ q) (hp p q), P.2⟩
  · rcases List.mem_cons.mp q with rfl | q
    · have P := N (d, od) (by simp); exact ⟨h2, P.2⟩
    · have P := N p (List.mem_append_right _ (.tail _ q)); exact ⟨key p (List.mem_append_right _ (.tail _ q)) (hq p q), P.2⟩
/-- a method's call that moves the place to at2: V v of what comes back -/
abbrev Moves (w : World) (V : Value → Prop) (at2 : Int) (t d l : Addr) (its : List Value) (n : Nat) (at1 o : Int) (k1 k2 k3 ta to' : Tok) (news : List (Addr × Obj)) (news' : Tok → List (Addr × Obj)) (h₀ : Heap) (L : Addr) (m : Str → Option Value) (s : Shared) (Q : Value → Shared → Prop) : Prop :=
  (∀ t2, Upd d (tokD w l at1 o k1 k2 k3 ta to') (tokD w l at2 o k1 k2 k3 t2 to') news (news' t2)) ∧
  ∀ (v : Value) (h' : Heap) (tk' : Nat) (t2 : Tok), V v → Fr h₀ L h' m → News h₀ L h' (news' t2) → Q v { s with heap := h', toks := tk' }
theorem moves_end {w : World} {V : Value → Prop} {at1 at2 a2 o : Int} {t d l : Addr} {its : List Value} {n : Nat} {k1 k2 k3 ta to' t2 : Tok} {news nn : List (Addr × Obj)} {news' : Tok → List (Addr × Obj)} {h₀ g h' : Heap} {L L' : Addr} {m m' : Str → Option Value} {s : Shared} {Q : Value → Shared → Prop} {v : Value} {tk : Nat}
    (hret : ∀ (v : Value) (h' : Heap) (tk' : Nat) (t2 : Tok), V v → Fr h₀ L h' m → News h₀ L h' (news' t2) → Q v { s with heap := h', toks := tk' })
    (hU : ∀ t2, Upd d (tokD w l at1 o k1 k2 k3 ta to') (tokD w l at2 o k1 k2 k3 t2 to') news (news' t2))
    (F : Fr h₀ L s.heap m) (N : News h₀ L s.heap news) (ht : (t, instObj 258 d) ∈ news) (hl : (l, listOf its.toArray n) ∈ news) (hg : Rest s.heap [t, d, l] g)
    (F' : Fr g L' h' m') (kF : Fr h₀ L h' m) (kN : News h₀ L h' nn) (h1 : (t, instObj 258 d) ∈ nn) (h2 : (d, tokD w l a2 o k1 k2 k3 t2 to') ∈ nn) (h3 : (l, listOf its.toArray n) ∈ nn) (e : a2 = at2) (hV : V v) :
    Q v { s with heap := h', toks := tk } := by
  subst e
  exact hret v h' tk t2 hV kF (back3 hg F' F N (hU t2) ht hl (kN _ h1).1 (kN _ h2).1 (kN _ h3).1)
def rowLen : List Int → Nat
  | [] => 0
  | c :: r => if c = 10 then 0 else rowLen r + 1
theorem rowLen_stop {codes : List Int} {i : Int} (h : codeAt codes i = -1 ∨ codeAt codes i = 10) (hC : Good codes) : rowLen (codes.drop i.toNat) = 0 := by
  unfold codeAt at h
  cases q : codes.drop i.toNat with
  | nil => rfl
  | cons c r =>
    rw [q] at h
    have hm : c ∈ codes := List.mem_of_mem_drop (q ▸ List.mem_cons_self)
    have := hC.low c hm
    have hc : c = 10 := by rcases h with h | h <;> (simp only [hdC, List.headD_cons] at h; omega)
    simp [rowLen, hc]
theorem rowLen_go {codes : List Int} {i : Int} (h0 : 0 ≤ i) (h : ¬ codeAt codes i = -1) (h2 : ¬ codeAt codes i = 10) : rowLen (codes.drop i.toNat) = rowLen (codes.drop (i + 1).toNat) + 1 := by
  unfold codeAt at h h2
  have e : (i + 1).toNat = i.toNat + 1 := by omega
  rw [e, ← List.drop_drop]
  cases q : codes.drop i.toNat with
  | nil => rw [q] at h; exact absurd rfl h
  | cons c r =>
    rw [q] at h2
    have h3 : ¬ c = 10 := h2
    simp only [List.drop_one, List.tail_cons, rowLen]
    rw [if_neg h3]
theorem codeAt_some {codes : List Int} {i : Int} (h0 : 0 ≤ i) (h : ¬ codeAt codes i = -1) : i < codes.length := by
  rcases Int.lt_or_le i codes.length with q | q
  · exact q
  · exact absurd (codeAt_out q) h
theorem row_go {codes : List Int} {a T : Int} (h0 : 0 ≤ a) (h : a + rowLen (codes.drop a.toNat) = T) (h1 : ¬ codeAt codes a = -1) (h2 : ¬ codeAt codes a = 10) : 0 ≤ a + 1 ∧ a + 1 + rowLen (codes.drop (a + 1).toNat) = T := by
  have := rowLen_go h0 h1 h2
  omega
theorem row_less {codes : List Int} {a T : Int} (h0 : 0 ≤ a) (h : a + rowLen (codes.drop a.toNat) = T) (h1 : ¬ codeAt codes a = -1) (h2 : ¬ codeAt codes a = 10) : codes.length - (a + 1).toNat < codes.length - a.toNat := by
  have := codeAt_some h0 h1
  omega
section
variable {w : World} {mean : ExcName → Option Value} {mg mb : Str → Option Value} {news : List (Addr × Obj)} {news' : Tok → List (Addr × Obj)} {t d l : Addr} {its : List Value} {n : Nat} {codes : List Int} {at1 o : Int} {k1 k2 k3 ta to' : Tok}
theorem c_skip_row (hC : Good codes) (hI : IntsAre its codes) (ht : (t, instObj 258 d) ∈ news) (hdt : (d, tokD w l at1 o k1 k2 k3 ta to') ∈ news) (hl : (l, listOf its.toArray n) ∈ news) (h0 : 0 ≤ at1) (o1 : t ≠ d) (o2 : l ≠ d) :
    Claim w mean mg mb 14 news 185 [.ref t] (Moves w (fun v => v = .none) (at1 + rowLen (codes.drop at1.toNat)) t d l its n at1 o k1 k2 k3 ta to' news news') := by
  (unfold Claim; k_fill; w_top off)
  intro dp un gd cn cs a ccd cl outer A₀ base h₀ L m s Q E B F X N T hk hd hu ⟨hU, hret⟩
  k_with_none
  k_with "call ref" => (k_here; (with_reducible show wpAny _ _ (call (Value.ref 143) _) _ _ _); k_dflt (refine' c_code_at ?hC ?hI ?ht ?hdt ?hl _ _ ?hi _ _ _ _ _ _ _ _ _ _ _ _ _ _ _ _ _ ?k1 ?k2 ?k3 ?k4 ?k5 ?k6 ?k7 ?k8 ?_; (case k4 => k_asm); (case k1 => k_asm); (case k2 => k_asm); (case k3 => k_asm); (case k5 => k_asm); (case k6 => first | exact rfl | assumption); (case k7 => ktr_room); (case k8 => ktr_units); (case hC => assumption); (case hI => assumption); (case ht => k_mem); (case hdt => k_mem); (case hl => k_mem); (case hi => omega)); intro _ _ _ _ _; (try dsimp only); (try k_sweep))
  k_with "call ref" => (k_here; (with_reducible show wpAny _ _ (call (Value.ref 143) _) _ _ _); k_dflt (refine' c_code_at_v ?hv ?hC ?hI ?ht ?hdt ?hl _ ?hi _ _ _ _ _ _ _ _ _ _ _ _ _ _ _ _ _ ?k1 ?k2 ?k3 ?k4 ?k5 ?k6 ?k7 ?k8 ?_; (case k4 => k_asm); (case k1 => k_asm); (case k2 => k_asm); (case k3 => k_asm); (case k5 => k_asm); (case k6 => first | exact rfl | assumption); (case k7 => ktr_room); (case k8 => ktr_units); (case hC => assumption); (case hv => with_reducible assumption); (case hI => assumption); (case ht => k_mem); (case hdt => k_mem); (case hl => k_mem); (case hi => omega)); intro _ _ _ _ _; (try dsimp only); (try k_sweep))
  k_with "exec While" => k_while (fun _ a => 0 ≤ a ∧ a + rowLen (codes.drop a.toNat) = at1 + rowLen (codes.drop at1.toNat)) (fun _ a => codes.length - a.toNat) "self.at"
  k_with "state" => (k_dflt (exact row_go (by assumption) (by assumption) (by assumption) (by assumption)))
  k_with "measure" => (k_dflt (exact row_less (by assumption) (by assumption) (by assumption) (by assumption)))
  have N3 : News h₀ L s.heap [(t, instObj 258 d), (d, tokD w l at1 o k1 k2 k3 ta to'), (l, listOf its.toArray n)] := cb_drop N (by simp only [List.forall_mem_cons, List.not_mem_nil, false_implies, implies_true, and_true]; exact ⟨ht, hdt, hl⟩)
  have hz := hC.size
  have o1' := neN o1
  have o2' := neN o2
  refine wpAny_call ?_
  k_dflt (refine' enter3 ?k1 ?k2 ?k3 ?k4 ?k5 ?kA ?kF ?kK ?k6 ?k7 ?k8 ?k9 ?kB ?_ ?c2 ?c3 ?c4 ?c5; (case kA => exact rfl); (case kF => exact rfl); (case kK => first | exact rfl | assumption); (case k1 => k_asm); (case k2 => k_asm); (case k3 => k_asm); (case k4 => exact N3); (case k5 => k_asm); (case k6 => k_is); (case k7 => k_is); (case k8 => ktr_room); (case k9 => first | exact BindsTo.of_eq rfl | exact binds_K (by k_in) rfl (by k_is) rfl rfl rfl); (case c5 => decide); (case kB => exact locs rfl); (case c2 => exact rfl); (case c3 => exact rfl); (case c4 => exact rfl); k_whole; intro g' L' h' hg FG' F' N' B' X' T'; (try dsimp only); (try k_lift B'); (try k_fold))
  (rename News _ _ _ _ => N8); dsimp only [tokD] at N8
  k_steps
  all_goals (refine' moves_end (Q := Q) hret hU F N ht hl hg ?F' ?kF ?kN ?h1 ?h2 ?h3 ?e ?hV; (case F' => k_asm); (case kF => k_asm); (case kN => k_asm); (case h1 => k_mem); (case h2 => k_mem); (case h3 => k_mem); (case e => have := rowLen_stop (by first | exact .inl (by assumption) | exact .inr (by assumption)) hC; omega); (case hV => rfl))
end


theorem drop_add {codes : List Int} {a : Int} (h0 : 0 ≤ a) (k : Nat) : codes.drop (a + k).toNat = (codes.drop a.toNat).drop k := by
  rw [List.drop_drop, show (a + k).toNat = a.toNat + k from by omega]
theorem drop_one' {codes : List Int} {a : Int} (h0 : 0 ≤ a) : codes.drop (a + 1).toNat = (codes.drop a.toNat).tail := by
  rw [show (a + 1).toNat = a.toNat + 1 from by omega, ← List.drop_drop, List.drop_one]
def remLen : List Int → Option Nat
  | [] => none
  | c :: r => if c = 42 ∧ hdC r = 47 then some 2 else (remLen r).map (· + 1)
def RemInv (codes : List Int) (T a : Int) : Prop := ∃ k : Nat, remLen (codes.drop a.toNat) = some k ∧ a + k = T
theorem rem_here {codes : List Int} {T a : Int} (hC : Good codes) (h : RemInv codes T a) (h0 : 0 ≤ a) : 0 ≤ codeAt codes a := by
  obtain ⟨k, hk, _⟩ := h
  rcases Int.lt_or_le a codes.length with q | q
  · rw [codeAt_in q h0]; have := hC.range (j := a.toNat) (by omega); omega
  · rw [List.drop_eq_nil_of_le (by omega)] at hk; cases hk
theorem rem_cons {codes : List Int} {a : Int} (h : 0 ≤ codeAt codes a) : ∃ c r, codes.drop a.toNat = c :: r ∧ codeAt codes a = c := by
  unfold codeAt at *
  cases q : codes.drop a.toNat with
  | nil => rw [q] at h; exact absurd h (by decide)
  | cons c r => exact ⟨c, r, rfl, rfl⟩
theorem rem_stop {codes : List Int} {T a : Int} (h : RemInv codes T a) (h0 : 0 ≤ a) (h1 : codeAt codes a = 42) (h2 : codeAt codes (a + 1) = 47) : a + 2 = T := by
  obtain ⟨k, hk, e⟩ := h
  obtain ⟨c, r, q, hc⟩ := rem_cons (codes := codes) (a := a) (by omega)
  unfold codeAt at h2
  rw [drop_one' h0, q, List.tail_cons] at h2
  rw [q, remLen, if_pos ⟨by omega, h2⟩] at hk
  cases hk; omega
theorem rem_go {codes : List Int} {T a : Int} (h : RemInv codes T a) (h0 : 0 ≤ a) (h1 : ¬ (codeAt codes a = 42 ∧ codeAt codes (a + 1) = 47)) : RemInv codes T (a + 1) := by
  obtain ⟨k, hk, e⟩ := h
  rcases Int.lt_or_le a codes.length with q' | q'
  · obtain ⟨c, r, q⟩ : ∃ c r, codes.drop a.toNat = c :: r := by
      cases q : codes.drop a.toNat with
      | nil => rw [q] at hk; cases hk
      | cons c r => exact ⟨c, r, rfl⟩
    have e2 : codes.drop (a + 1).toNat = r := by rw [drop_one' h0, q, List.tail_cons]
    unfold codeAt at h1
    rw [e2, q] at h1
    have h1' : ¬ (c = 42 ∧ hdC r = 47) := h1
    rw [q, remLen, if_neg h1'] at hk
    obtain ⟨k', hk', ek⟩ := Option.map_eq_some_iff.mp hk
    exact ⟨k', by rw [e2]; exact hk', by omega⟩
  · rw [List.drop_eq_nil_of_le (by omega)] at hk; cases hk
theorem rem_end1 {codes : List Int} {T a : Int} (hC : Good codes) (h0 : 0 ≤ a) (h : RemInv codes T a) (h1 : ¬ codeAt codes a = 42) : 0 ≤ a + 1 ∧ 0 ≤ codeAt codes (a + 1) ∧ RemInv codes T (a + 1) :=
  have z := rem_go h h0 (fun q => h1 q.1)
  ⟨by omega, rem_here hC z (by omega), z⟩
theorem rem_end2 {codes : List Int} {T a : Int} (hC : Good codes) (h0 : 0 ≤ a) (h : RemInv codes T a) (h1 : ¬ codeAt codes (a + 1) = 47) : 0 ≤ a + 1 ∧ 0 ≤ codeAt codes (a + 1) ∧ RemInv codes T (a + 1) :=
  have z := rem_go h h0 (fun q => h1 q.2)
  ⟨by omega, rem_here hC z (by omega), z⟩
theorem rem_less {codes : List Int} {a : Int} (h0 : 0 ≤ a) (h : 0 ≤ codeAt codes a) : codes.length - (a + 1).toNat < codes.length - a.toNat := by
  have := codeAt_some (codes := codes) h0 (by omega)
  omega
def remN (codes : List Int) (a : Int) : Nat := (remLen (codes.drop a.toNat)).getD 0
theorem rem_init {codes : List Int} {a : Int} (h : (remLen (codes.drop a.toNat)).isSome = true) : RemInv codes (a + remN codes a) a := by
  obtain ⟨k, hk⟩ := Option.isSome_iff_exists.mp h
  exact ⟨k, hk, by unfold remN; rw [hk]; rfl⟩
section
variable {w : World} {mean : ExcName → Option Value} {mg mb : Str → Option Value} {news : List (Addr × Obj)} {news' : Tok → List (Addr × Obj)} {t d l : Addr} {its : List Value} {n : Nat} {codes : List Int} {at1 o : Int} {k1 k2 k3 ta to' : Tok}
theorem c_skip_remark (hC : Good codes) (hI : IntsAre its codes) (ht : (t, instObj 258 d) ∈ news) (hdt : (d, tokD w l at1 o k1 k2 k3 ta to') ∈ news) (hl : (l, listOf its.toArray n) ∈ news) (h0 : 0 ≤ at1) (o1 : t ≠ d) (o2 : l ≠ d) (hrem : (remLen (codes.drop (at1 + 2).toNat)).isSome = true) :
    Claim w mean mg mb 14 news 192 [.ref t] (Moves w (fun v => v = .none) (at1 + 2 + remN codes (at1 + 2)) t d l its n at1 o k1 k2 k3 ta to' news news') := by
  (unfold Claim; k_fill; w_top off)
  intro dp un gd cn cs a ccd cl outer A₀ base h₀ L m s Q E B F X N T hk hd hu ⟨hU, hret⟩
  have hR := rem_init hrem
  have hR0 := rem_here hC hR (by omega)
  k_with_none
  k_with "call ref" => (k_here; (with_reducible show wpAny _ _ (call (Value.ref 143) _) _ _ _); k_dflt (refine' c_code_at ?hC ?hI ?ht ?hdt ?hl _ _ ?hi _ _ _ _ _ _ _ _ _ _ _ _ _ _ _ _ _ ?k1 ?k2 ?k3 ?k4 ?k5 ?k6 ?k7 ?k8 ?_; (case k4 => k_asm); (case k1 => k_asm); (case k2 => k_asm); (case k3 => k_asm); (case k5 => k_asm); (case k6 => first | exact rfl | assumption); (case k7 => ktr_room); (case k8 => ktr_units); (case hC => assumption); (case hI => assumption); (case ht => k_mem); (case hdt => k_mem); (case hl => k_mem); (case hi => omega)); intro _ _ _ _ _; (try dsimp only); (try k_sweep))
  k_with "call ref" => (k_here; (with_reducible show wpAny _ _ (call (Value.ref 143) _) _ _ _); k_dflt (refine' c_code_at_v ?hv ?hC ?hI ?ht ?hdt ?hl _ ?hi _ _ _ _ _ _ _ _ _ _ _ _ _ _ _ _ _ ?k1 ?k2 ?k3 ?k4 ?k5 ?k6 ?k7 ?k8 ?_; (case k4 => k_asm); (case k1 => k_asm); (case k2 => k_asm); (case k3 => k_asm); (case k5 => k_asm); (case k6 => first | exact rfl | assumption); (case k7 => ktr_room); (case k8 => ktr_units); (case hC => assumption); (case hv => with_reducible assumption); (case hI => assumption); (case ht => k_mem); (case hdt => k_mem); (case hl => k_mem); (case hi => omega)); intro _ _ _ _ _; (try dsimp only); (try k_sweep))
  k_with "exec While" => k_while (fun _ a => 0 ≤ a ∧ 0 ≤ codeAt codes a ∧ RemInv codes (at1 + 2 + remN codes (at1 + 2)) a) (fun _ a => codes.length - a.toNat) "self.at"
  k_with "state" => (k_dflt (first | exact rem_end1 hC (by assumption) (by assumption) (by assumption) | exact rem_end2 hC (by assumption) (by assumption) (by assumption) | exact ⟨by omega, by assumption, by assumption⟩))
  k_with "measure" => (k_dflt (exact rem_less (by assumption) (by assumption)))
  have N3 : News h₀ L s.heap [(t, instObj 258 d), (d, tokD w l at1 o k1 k2 k3 ta to'), (l, listOf its.toArray n)] := cb_drop N (by simp only [List.forall_mem_cons, List.not_mem_nil, false_implies, implies_true, and_true]; exact ⟨ht, hdt, hl⟩)
  have hz := hC.size
  have o1' := neN o1
  have o2' := neN o2
  refine wpAny_call ?_
  k_dflt (refine' enter3 ?k1 ?k2 ?k3 ?k4 ?k5 ?kA ?kF ?kK ?k6 ?k7 ?k8 ?k9 ?kB ?_ ?c2 ?c3 ?c4 ?c5; (case kA => exact rfl); (case kF => exact rfl); (case kK => first | exact rfl | assumption); (case k1 => k_asm); (case k2 => k_asm); (case k3 => k_asm); (case k4 => exact N3); (case k5 => k_asm); (case k6 => k_is); (case k7 => k_is); (case k8 => ktr_room); (case k9 => first | exact BindsTo.of_eq rfl | exact binds_K (by k_in) rfl (by k_is) rfl rfl rfl); (case c5 => decide); (case kB => exact locs rfl); (case c2 => exact rfl); (case c3 => exact rfl); (case c4 => exact rfl); k_whole; intro g' L' h' hg FG' F' N' B' X' T'; (try dsimp only); (try k_lift B'); (try k_fold))
  (rename News _ _ _ _ => N8); dsimp only [tokD] at N8
  k_steps
  all_goals (refine' moves_end (Q := Q) hret hU F N ht hl hg ?F' ?kF ?kN ?h1 ?h2 ?h3 ?e ?hV; (case F' => k_asm); (case kF => k_asm); (case kN => k_asm); (case h1 => k_mem); (case h2 => k_mem); (case h3 => k_mem); (case e => exact rem_stop (by assumption) (by assumption) (by assumption) (by assumption)); (case hV => rfl))
end
inductive Lay : List Int → Nat → Prop
  | space {c : Int} {r : List Int} {n : Nat} : isLayout c = true → Lay r n → Lay (c :: r) (n + 1)
  | row {r : List Int} {n : Nat} : Lay ((37 :: r).drop (rowLen (37 :: r))) n → Lay (37 :: r) (rowLen (37 :: r) + n)
  | remark {r : List Int} {k n : Nat} : remLen r = some k → Lay (r.drop k) n → Lay (47 :: 42 :: r) (2 + k + n)
  | stop {r : List Int} : isLayout (hdC r) = false → hdC r ≠ 37 → ¬ (hdC r = 47 ∧ hdC r.tail = 42) → Lay r 0
def LayInv (codes : List Int) (T a : Int) : Prop := ∃ n : Nat, Lay (codes.drop a.toNat) n ∧ a + n = T
theorem hdC_cons (c : Int) (r : List Int) : hdC (c :: r) = c := rfl
theorem lay_space {codes : List Int} {T a : Int} (h0 : 0 ≤ a) (h : LayInv codes T a) (h1 : isLayout (codeAt codes a) = true) : 0 ≤ a + 1 ∧ LayInv codes T (a + 1) := by
  refine ⟨by omega, ?_⟩
  obtain ⟨n, hl, e⟩ := h
  unfold codeAt at h1
  generalize hq : codes.drop a.toNat = q at hl h1
  cases hl with
  | space hc hl => exact ⟨_, by rw [drop_one' h0, hq]; exact hl, by omega⟩
  | row hl => exact absurd h1 (by rw [hdC_cons]; decide)
  | remark hk hl => exact absurd h1 (by rw [hdC_cons]; decide)
  | stop h2 _ _ => rw [h2] at h1; cases h1
theorem lay_row {codes : List Int} {T a : Int} (h0 : 0 ≤ a) (h : LayInv codes T a) (h1 : codeAt codes a = 37) : 0 ≤ a + rowLen (codes.drop a.toNat) ∧ LayInv codes T (a + rowLen (codes.drop a.toNat)) := by
  refine ⟨by omega, ?_⟩
  obtain ⟨n, hl, e⟩ := h
  unfold codeAt at h1
  unfold LayInv
  rw [drop_add h0]
  generalize codes.drop a.toNat = q at hl h1
  cases hl with
  | space hc hl => rw [hdC_cons] at h1; subst h1; exact absurd hc (by decide)
  | row hl => exact ⟨_, hl, by omega⟩
  | remark hk hl => exact absurd h1 (by rw [hdC_cons]; decide)
  | stop _ h2 _ => exact absurd h1 h2
theorem lay_rem {codes : List Int} {T a : Int} (h0 : 0 ≤ a) (h : LayInv codes T a) (h1 : codeAt codes a = 47) (h2 : codeAt codes (a + 1) = 42) :
    (remLen (codes.drop (a + 2).toNat)).isSome = true ∧ LayInv codes T (a + 2 + remN codes (a + 2)) := by
  obtain ⟨n, hl, e⟩ := h
  unfold codeAt at h1 h2
  rw [drop_one' h0] at h2
  unfold remN
  have e2 : codes.drop (a + 2).toNat = (codes.drop a.toNat).drop 2 := drop_add h0 2
  unfold LayInv
  rw [drop_add (a := a + 2) (by omega), e2]
  generalize codes.drop a.toNat = q at hl h1 h2
  cases hl with
  | space hc hl => rw [hdC_cons] at h1; subst h1; exact absurd hc (by decide)
  | row hl => exact absurd h1 (by rw [hdC_cons]; decide)
  | @remark r k n hk hl =>
    simp only [List.drop_succ_cons, List.drop_zero]
    rw [hk]
    exact ⟨rfl, n, hl, by simp only [Option.getD_some]; omega⟩
  | stop _ _ h3 => exact absurd ⟨h1, h2⟩ h3
theorem lay_stop {codes : List Int} {T a : Int} (h : LayInv codes T a) (h0 : 0 ≤ a) (h1 : ¬ isLayout (codeAt codes a) = true) (h2 : ¬ codeAt codes a = 37) (h3 : ¬ (codeAt codes a = 47 ∧ codeAt codes (a + 1) = 42)) : a = T := by
  obtain ⟨n, hl, e⟩ := h
  unfold codeAt at h1 h2 h3
  rw [drop_one' h0] at h3
  generalize codes.drop a.toNat = q at hl h1 h2 h3
  cases hl with
  | space hc hl => exact absurd hc h1
  | row hl => exact absurd rfl h2
  | remark hk hl => exact absurd ⟨rfl, rfl⟩ h3
  | stop _ _ _ => omega
theorem rowLen_pos {codes : List Int} {a : Int} (h1 : codeAt codes a = 37) : 1 ≤ rowLen (codes.drop a.toNat) := by
  unfold codeAt at h1
  generalize codes.drop a.toNat = q at h1
  cases q with
  | nil => exact absurd h1 (by decide)
  | cons c r => rw [hdC_cons] at h1; subst h1; simp [rowLen]
theorem lay_less {codes : List Int} {a b : Int} (h0 : 0 ≤ a) (h : 0 ≤ codeAt codes a) (hb : a < b) : codes.length - b.toNat < codes.length - a.toNat := by
  have := codeAt_some (codes := codes) h0 (by omega)
  omega
theorem layout_here {codes : List Int} {a : Int} (h : isLayout (codeAt codes a) = true) : 0 ≤ codeAt codes a := by
  unfold isLayout at h
  simp only [Bool.or_eq_true, Bool.and_eq_true, decide_eq_true_eq, beq_iff_eq] at h
  omega
section
variable {w : World} {mean : ExcName → Option Value} {mg mb : Str → Option Value} {news : List (Addr × Obj)} {news' : Tok → List (Addr × Obj)} {t d l : Addr} {its : List Value} {n : Nat} {codes : List Int} {at1 o : Int} {k1 k2 k3 ta to' : Tok}
theorem c_skip_layout {T9 : Int} (hC : Good codes) (hI : IntsAre its codes) (ht : (t, instObj 258 d) ∈ news) (hdt : (d, tokD w l at1 o k1 k2 k3 ta to') ∈ news) (hl : (l, listOf its.toArray n) ∈ news) (h0 : 0 ≤ at1) (o1 : t ≠ d) (o2 : l ≠ d) (hlay : LayInv codes T9 at1) :
    Claim w mean mg mb 18 news 178 [.ref t] (Moves w (fun v => v = .none) T9 t d l its n at1 o k1 k2 k3 ta to' news news') := by
  (unfold Claim; k_fill; w_top off)
  intro dp un gd cn cs a ccd cl outer A₀ base h₀ L m s Q E B F X N T hk hd hu ⟨hU, hret⟩
  k_with_none
  k_with "call ref" => (k_here; (with_reducible show wpAny _ _ (call (Value.ref 53) _) _ _ _); k_dflt (refine' c_is_layout _ _ _ _ _ _ _ _ _ _ _ _ _ _ _ _ _ _ _ ?k1 ?k2 ?k3 ?k4 ?k5 ?k6 ?k7 ?k8 ?_; (case k4 => k_asm); (case k1 => k_asm); (case k2 => k_asm); (case k3 => k_asm); (case k5 => k_asm); (case k6 => first | exact rfl | assumption); (case k7 => ktr_room); (case k8 => ktr_units)); intro _ _ _ _ _; (try dsimp only); (try k_sweep))
  k_with "call ref" => (k_here; (with_reducible show wpAny _ _ (call (Value.ref 143) _) _ _ _); k_dflt (refine' c_code_at ?hC ?hI ?ht ?hdt ?hl _ _ ?hi _ _ _ _ _ _ _ _ _ _ _ _ _ _ _ _ _ ?k1 ?k2 ?k3 ?k4 ?k5 ?k6 ?k7 ?k8 ?_; (case k4 => k_asm); (case k1 => k_asm); (case k2 => k_asm); (case k3 => k_asm); (case k5 => k_asm); (case k6 => first | exact rfl | assumption); (case k7 => ktr_room); (case k8 => ktr_units); (case hC => assumption); (case hI => assumption); (case ht => k_mem); (case hdt => k_mem); (case hl => k_mem); (case hi => omega)); intro _ _ _ _ _; (try dsimp only); (try k_sweep))
  k_with "call ref" => (k_here; (with_reducible show wpAny _ _ (call (Value.ref 143) _) _ _ _); k_dflt (refine' c_code_at_v ?hv ?hC ?hI ?ht ?hdt ?hl _ ?hi _ _ _ _ _ _ _ _ _ _ _ _ _ _ _ _ _ ?k1 ?k2 ?k3 ?k4 ?k5 ?k6 ?k7 ?k8 ?_; (case k4 => k_asm); (case k1 => k_asm); (case k2 => k_asm); (case k3 => k_asm); (case k5 => k_asm); (case k6 => first | exact rfl | assumption); (case k7 => ktr_room); (case k8 => ktr_units); (case hC => assumption); (case hv => with_reducible assumption); (case hI => assumption); (case ht => k_mem); (case hdt => k_mem); (case hl => k_mem); (case hi => omega)); intro _ _ _ _ _; (try dsimp only); (try k_sweep))
  k_with "call ref" => (k_here; (with_reducible show wpAny _ _ (call (Value.ref 185) _) _ _ _); k_dflt (refine' c_skip_row ?hC ?hI ?ht ?hdt ?hl ?h0 ?o1 ?o2  _ _ _ _ _ _ _ _ _ _ _ _ _ _ _ _ _ ?k1 ?k2 ?k3 ?k4 ?k5 ?k6 ?k7 ?k8 ⟨?kU, ?_⟩; (case k4 => k_asm); (case k1 => k_asm); (case k2 => k_asm); (case k3 => k_asm); (case k5 => k_asm); (case k6 => first | exact rfl | assumption); (case k7 => ktr_room); (case k8 => ktr_units); (case hC => assumption); (case hI => assumption); (case ht => k_mem); (case hdt => k_mem); (case hl => k_mem); (case h0 => omega); (case o1 => k_ne); (case o2 => k_ne); (case kU => (intro t2; k_upd))); intro _ _ _ _ _ _ _; (try dsimp only); (try k_sweep))
  k_with "call ref" => (k_here; (with_reducible show wpAny _ _ (call (Value.ref 192) _) _ _ _); k_dflt (refine' c_skip_remark ?hC ?hI ?ht ?hdt ?hl ?h0 ?o1 ?o2 ?hrem _ _ _ _ _ _ _ _ _ _ _ _ _ _ _ _ _ ?k1 ?k2 ?k3 ?k4 ?k5 ?k6 ?k7 ?k8 ⟨?kU, ?_⟩; (case k4 => k_asm); (case k1 => k_asm); (case k2 => k_asm); (case k3 => k_asm); (case k5 => k_asm); (case k6 => first | exact rfl | assumption); (case k7 => ktr_room); (case k8 => ktr_units); (case hC => assumption); (case hI => assumption); (case ht => k_mem); (case hdt => k_mem); (case hl => k_mem); (case h0 => omega); (case o1 => k_ne); (case o2 => k_ne); (case hrem => exact (lay_rem (by assumption) (by assumption) (by assumption) (by assumption)).1); (case kU => (intro t2; k_upd))); intro _ _ _ _ _ _ _; (try dsimp only); (try k_sweep))
  k_with "exec While" => k_while (fun _ a => 0 ≤ a ∧ LayInv codes T9 a) (fun _ a => codes.length - a.toNat) "self.at"
  k_with "state" => (k_dflt (first | exact ⟨by assumption, by assumption⟩ | exact lay_space (by assumption) (by assumption) (by assumption) | exact lay_row (by assumption) (by assumption) (by assumption) | exact ⟨by omega, (lay_rem (by assumption) (by assumption) (by assumption) (by assumption)).2⟩))
  k_with "measure" => (k_dflt (first | exact lay_less (by assumption) (layout_here (by assumption)) (by omega) | (have := rowLen_pos (codes := codes) (by assumption); exact lay_less (by assumption) (by omega) (by omega)) | exact lay_less (by assumption) (by omega) (by omega)))
  have N3 : News h₀ L s.heap [(t, instObj 258 d), (d, tokD w l at1 o k1 k2 k3 ta to'), (l, listOf its.toArray n)] := cb_drop N (by simp only [List.forall_mem_cons, List.not_mem_nil, false_implies, implies_true, and_true]; exact ⟨ht, hdt, hl⟩)
  have hz := hC.size
  have o1' := neN o1
  have o2' := neN o2
  refine wpAny_call ?_
  k_dflt (refine' enter3 ?k1 ?k2 ?k3 ?k4 ?k5 ?kA ?kF ?kK ?k6 ?k7 ?k8 ?k9 ?kB ?_ ?c2 ?c3 ?c4 ?c5; (case kA => exact rfl); (case kF => exact rfl); (case kK => first | exact rfl | assumption); (case k1 => k_asm); (case k2 => k_asm); (case k3 => k_asm); (case k4 => exact N3); (case k5 => k_asm); (case k6 => k_is); (case k7 => k_is); (case k8 => ktr_room); (case k9 => first | exact BindsTo.of_eq rfl | exact binds_K (by k_in) rfl (by k_is) rfl rfl rfl); (case c5 => decide); (case kB => exact locs rfl); (case c2 => exact rfl); (case c3 => exact rfl); (case c4 => exact rfl); k_whole; intro g' L' h' hg FG' F' N' B' X' T'; (try dsimp only); (try k_lift B'); (try k_fold))
  (rename News _ _ _ _ => N8); dsimp only [tokD] at N8
  k_steps
  all_goals (refine' moves_end (Q := Q) hret hU F N ht hl hg ?F' ?kF ?kN ?h1 ?h2 ?h3 ?e ?hV; (case F' => k_asm); (case kF => k_asm); (case kN => k_asm); (case h1 => k_mem); (case h2 => k_mem); (case h3 => k_mem); (case e => first | exact lay_stop (by assumption) (by assumption) (by simp_all) (by assumption) (fun q => absurd q.1 (by assumption)) | exact lay_stop (by assumption) (by assumption) (by simp_all) (by assumption) (fun q => absurd q.2 (by assumption))); (case hV => rfl))
end


theorem back0 {h₀ g h h' : Heap} {L L' : Addr} {m' : Str → Option Value} {news : List (Addr × Obj)} (hg : Rest h [] g) (F' : Fr g L' h' m') (N : News h₀ L h news) : News h₀ L h' news :=
  fun p hp => ⟨F'.keep _ _ (hg _ _ (N p hp).1 (fun q => nomatch q)), (N p hp).2⟩
theorem isList0 {h₀ g h : Heap} {L c : Addr} {its : Array Value} {n : Nat} {news : List (Addr × Obj)} (hg : Rest h [] g) (N : News h₀ L h news) (hc : (c, listOf its n) ∈ news) : g.IsList c its :=
  ⟨_, hg _ _ (N _ hc).1 (fun q => nomatch q), rfl, n, rfl⟩
section
variable {w : World} {mean : ExcName → Option Value} {mg mb : Str → Option Value} {news : List (Addr × Obj)} {news' : Tok → List (Addr × Obj)} {t d l : Addr} {its : List Value} {n : Nat} {codes : List Int} {at1 o : Int} {k1 k2 k3 ta to' : Tok}
theorem c_codes_text {c : Addr} {jts : List Value} {n9 : Nat} {ns : List Int} (hc : (c, listOf jts.toArray n9) ∈ news) (hI : IntsAre jts ns) (hr : ∀ x ∈ ns, 0 ≤ x ∧ x ≤ 233) (hz : ns.length < 200) :
    Claim w mean mg mb 12 news 107 [.ref c] (fun h₀ L m s Q => ∀ (x : Str) (t : Tok) (h' : Heap) (tk' : Nat), Fr h₀ L h' m → News h₀ L h' news → Q (.str x t) { s with heap := h', toks := tk' }) := by
  (unfold Claim; k_fill; w_top off)
  intro dp un gd cn cs a ccd cl outer A₀ base h₀ L m s Q E B F X N T hk hd hu hret
  k_with_none
  k_with "eval ListComp" => (k_here; k_dflt (refine LCg.ListComp_U (F₀ := by k_asm) (by with_unfolding_all rfl) (by decide) (by rfl) (by decide) (by rfl) ?_))
  k_with "CompSrc" => (refine LCg.CompSrc.base (by rfl) (by k_asm) (by k_asm) (by assumption) (by size_fits) ?_; intro g'; (refine' kct_list (fun k => (⟨#[k.toNat]⟩ : Str)) (by assumption) (fun k' t' I' oI' C' oC' D' m' ys' h' tk' E' hk' hC' hx' F' N' off' ne' => ?_) ?_); (all_goals (try (simp only [LCg.Off3, and_true] at off'))); (all_goals (try ((show KPfMark → _); intro hMark'; have hr9 := hr _ hk'))))
  have N3 : News h₀ L s.heap [] := fun p hp => nomatch hp
  refine wpAny_call ?_
  k_dflt (refine' enter3 ?k1 ?k2 ?k3 ?k4 ?k5 ?kA ?kF ?kK ?k6 ?k7 ?k8 ?k9 ?kB ?_ ?c2 ?c3 ?c4 ?c5; (case kA => exact rfl); (case kF => exact rfl); (case kK => first | exact rfl | assumption); (case k1 => k_asm); (case k2 => k_asm); (case k3 => k_asm); (case k4 => exact N3); (case k5 => k_asm); (case k6 => k_is); (case k7 => k_is); (case k8 => ktr_room); (case k9 => first | exact BindsTo.of_eq rfl | exact binds_K (by k_in) rfl (by k_is) rfl rfl rfl); (case c5 => decide); (case kB => exact locs rfl); (case c2 => exact rfl); (case c3 => exact rfl); (case c4 => exact rfl); k_whole; intro g' L' h' hg FG' F' N' B' X' T'; (try dsimp only); (try k_lift B'); (try k_fold))
  have hl := isList0 hg N hc
  have hil := hI.length
  k_steps
  all_goals (refine' hret _ _ _ _ ?a ?b; (case a => k_asm); (case b => exact back0 hg (by k_asm) N))
end

theorem good_slice {codes : List Int} {a b : Nat} (hC : Good codes) : ∀ x ∈ List.take b (List.drop a codes), 0 ≤ x ∧ x ≤ 233 := fun x hx => by
  have := hC.low x (List.mem_of_mem_drop (List.mem_of_mem_take hx))
  omega
theorem good_len {codes : List Int} {a b : Nat} (hC : Good codes) : (List.take b (List.drop a codes)).length < 200 := by
  have := hC.size
  rw [List.length_take, List.length_drop]
  omega
def endsC (c : Int) : Bool := c == -1 || c == 37 || isLayout c
def wordLen : List Int → Nat
  | [] => 0
  | c :: r => if isAlnum c then wordLen r + 1 else 0
def symLen : List Int → Nat
  | [] => 0
  | c :: r => if isSymbol c then symLen r + 1 else 0
theorem word_out {codes : List Int} {a : Int} (h : isAlnum (codeAt codes a) = false) : wordLen (codes.drop a.toNat) = 0 := by
  unfold codeAt at h
  generalize codes.drop a.toNat = q at h
  cases q with
  | nil => rfl
  | cons c r => rw [hdC_cons] at h; simp [wordLen, h]
theorem alnum_here {codes : List Int} {a : Int} (h : isAlnum (codeAt codes a) = true) : 0 ≤ codeAt codes a := by
  unfold isAlnum isSmall isCapital isDigit at h
  simp only [Bool.or_eq_true, Bool.and_eq_true, decide_eq_true_eq, beq_iff_eq] at h
  omega
theorem word_go {codes : List Int} {a T : Int} (h0 : 0 ≤ a) (hT : a + wordLen (codes.drop a.toNat) = T) (h : isAlnum (codeAt codes a) = true) : 0 ≤ a + 1 ∧ a + 1 + wordLen (codes.drop (a + 1).toNat) = T ∧ a + 1 ≤ codes.length := by
  have h9 := codeAt_some h0 (codes := codes) (i := a) (by have := alnum_here h; omega)
  rw [drop_one' h0]
  unfold codeAt at h
  generalize codes.drop a.toNat = q at h hT
  cases q with
  | nil => exact absurd h (by decide)
  | cons c r =>
    rw [hdC_cons] at h
    simp only [wordLen, h, if_true, List.tail_cons] at hT ⊢
    refine ⟨by omega, by omega, by omega⟩
theorem sym_out' {codes : List Int} {a : Int} (h : isSymbol (codeAt codes a) = false) : symLen (codes.drop a.toNat) = 0 := by
  unfold codeAt at h
  generalize codes.drop a.toNat = q at h
  cases q with
  | nil => rfl
  | cons c r => rw [hdC_cons] at h; simp [symLen, h]
theorem symbol_here {c : Int} (h : isSymbol c = true) : 0 ≤ c := by
  rcases Int.lt_or_le c 0 with q | q
  · rw [sym_out (.inl q)] at h; cases h
  · exact q
theorem sym_go {codes : List Int} {a T : Int} (h0 : 0 ≤ a) (hT : a + symLen (codes.drop a.toNat) = T) (h : isSymbol (codeAt codes a) = true) : 0 ≤ a + 1 ∧ a + 1 + symLen (codes.drop (a + 1).toNat) = T ∧ a + 1 ≤ codes.length := by
  have h9 := codeAt_some h0 (codes := codes) (i := a) (by have := symbol_here h; omega)
  rw [drop_one' h0]
  unfold codeAt at h
  generalize codes.drop a.toNat = q at h hT
  cases q with
  | nil => exact absurd h (by decide)
  | cons c r =>
    rw [hdC_cons] at h
    simp only [symLen, h, if_true, List.tail_cons] at hT ⊢
    refine ⟨by omega, by omega, by omega⟩
section
variable {w : World} {mean : ExcName → Option Value} {mg mb : Str → Option Value} {news : List (Addr × Obj)} {news' : Tok → List (Addr × Obj)} {t d l : Addr} {its : List Value} {n : Nat} {codes : List Int} {at1 o : Int} {k1 k2 k3 ta to' : Tok}
theorem c_word (hC : Good codes) (hI : IntsAre its codes) (ht : (t, instObj 258 d) ∈ news) (hdt : (d, tokD w l at1 o k1 k2 k3 ta to') ∈ news) (hl : (l, listOf its.toArray n) ∈ news) (h0 : 0 ≤ at1) (o1 : t ≠ d) (o2 : l ≠ d) (tk1 : Tok) (hin : at1 ≤ codes.length) :
    Claim w mean mg mb 16 news 199 [.ref t, .int at1 tk1] (Moves w (fun v => ∃ x tk, v = .str x tk) (at1 + wordLen (codes.drop at1.toNat)) t d l its n at1 o k1 k2 k3 ta to' news news') := by
  (unfold Claim; k_fill; w_top off)
  intro dp un gd cn cs a ccd cl outer A₀ base h₀ L m s Q E B F X N T hk hd hu ⟨hU, hret⟩
  k_with_none
  k_with "call ref" => (k_here; (with_reducible show wpAny _ _ (call (Value.ref 143) _) _ _ _); k_dflt (refine' c_code_at ?hC ?hI ?ht ?hdt ?hl _ _ ?hi _ _ _ _ _ _ _ _ _ _ _ _ _ _ _ _ _ ?k1 ?k2 ?k3 ?k4 ?k5 ?k6 ?k7 ?k8 ?_; (case k4 => k_asm); (case k1 => k_asm); (case k2 => k_asm); (case k3 => k_asm); (case k5 => k_asm); (case k6 => first | exact rfl | assumption); (case k7 => ktr_room); (case k8 => ktr_units); (case hC => assumption); (case hI => assumption); (case ht => k_mem); (case hdt => k_mem); (case hl => k_mem); (case hi => omega)); intro _ _ _ _ _; (try dsimp only); (try k_sweep))
  k_with "call ref" => (k_here; (with_reducible show wpAny _ _ (call (Value.ref 143) _) _ _ _); k_dflt (refine' c_code_at_v ?hv ?hC ?hI ?ht ?hdt ?hl _ ?hi _ _ _ _ _ _ _ _ _ _ _ _ _ _ _ _ _ ?k1 ?k2 ?k3 ?k4 ?k5 ?k6 ?k7 ?k8 ?_; (case k4 => k_asm); (case k1 => k_asm); (case k2 => k_asm); (case k3 => k_asm); (case k5 => k_asm); (case k6 => first | exact rfl | assumption); (case k7 => ktr_room); (case k8 => ktr_units); (case hC => assumption); (case hv => with_reducible assumption); (case hI => assumption); (case ht => k_mem); (case hdt => k_mem); (case hl => k_mem); (case hi => omega)); intro _ _ _ _ _; (try dsimp only); (try k_sweep))
  k_with "call ref" => (k_here; (with_reducible show wpAny _ _ (call (Value.ref 81) _) _ _ _); k_dflt (refine' c_is_alnum _ _ _ _ _ _ _ _ _ _ _ _ _ _ _ _ _ _ _ ?k1 ?k2 ?k3 ?k4 ?k5 ?k6 ?k7 ?k8 ?_; (case k4 => k_asm); (case k1 => k_asm); (case k2 => k_asm); (case k3 => k_asm); (case k5 => k_asm); (case k6 => first | exact rfl | assumption); (case k7 => ktr_room); (case k8 => ktr_units)); intro _ _ _ _ _; (try dsimp only); (try k_sweep))
  k_with "call ref" => (k_here; (with_reducible show wpAny _ _ (call (Value.ref 107) _) _ _ _); k_dflt (refine' c_codes_text ?hc ?hI ?hr ?hz _ _ _ _ _ _ _ _ _ _ _ _ _ _ _ _ _ ?k1 ?k2 ?k3 ?k4 ?k5 ?k6 ?k7 ?k8 ?_; (case k4 => k_asm); (case k1 => k_asm); (case k2 => k_asm); (case k3 => k_asm); (case k5 => k_asm); (case k6 => first | exact rfl | assumption); (case k7 => ktr_room); (case k8 => ktr_units); (case hc => k_mem); (case hI => assumption); (case hr => first | exact good_slice (by assumption) | assumption); (case hz => first | exact good_len (by assumption) | assumption)); intro _ _ _ _ _ _; (try dsimp only); (try k_sweep))
  k_with "exec While" => k_while (fun _ e => 0 ≤ e ∧ e + wordLen (codes.drop e.toNat) = at1 + wordLen (codes.drop at1.toNat) ∧ e ≤ codes.length ∧ at1 ≤ e) (fun _ e => codes.length - e.toNat) "end"
  k_with "state" => (k_dflt (first | exact ⟨by omega, rfl, by omega, by omega⟩ | exact (have z := word_go (by assumption) (by assumption) (by assumption); ⟨z.1, z.2.1, z.2.2, by omega⟩)))
  k_with "measure" => (k_dflt (exact lay_less (by assumption) (alnum_here (by assumption)) (by omega)))
  have N3 : News h₀ L s.heap [(t, instObj 258 d), (d, tokD w l at1 o k1 k2 k3 ta to'), (l, listOf its.toArray n)] := cb_drop N (by simp only [List.forall_mem_cons, List.not_mem_nil, false_implies, implies_true, and_true]; exact ⟨ht, hdt, hl⟩)
  have hz := hC.size
  have o1' := neN o1
  have o2' := neN o2
  refine wpAny_call ?_
  k_dflt (refine' enter3 ?k1 ?k2 ?k3 ?k4 ?k5 ?kA ?kF ?kK ?k6 ?k7 ?k8 ?k9 ?kB ?_ ?c2 ?c3 ?c4 ?c5; (case kA => exact rfl); (case kF => exact rfl); (case kK => first | exact rfl | assumption); (case k1 => k_asm); (case k2 => k_asm); (case k3 => k_asm); (case k4 => exact N3); (case k5 => k_asm); (case k6 => k_is); (case k7 => k_is); (case k8 => ktr_room); (case k9 => first | exact BindsTo.of_eq rfl | exact binds_K (by k_in) rfl (by k_is) rfl rfl rfl); (case c5 => decide); (case kB => exact locs rfl); (case c2 => exact rfl); (case c3 => exact rfl); (case c4 => exact rfl); k_whole; intro g' L' h' hg FG' F' N' B' X' T'; (try dsimp only); (try k_lift B'); (try k_fold))
  (rename News _ _ _ _ => N8); dsimp only [tokD] at N8
  k_steps

  all_goals (refine' moves_end (Q := Q) hret hU F N ht hl hg ?F' ?kF ?kN ?h1 ?h2 ?h3 ?e ?hV; (case F' => k_asm); (case kF => k_asm); (case kN => k_asm); (case h1 => k_mem); (case h2 => k_mem); (case h3 => k_mem); (case e => have := word_out (codes := codes) (by assumption); omega); (case hV => exact ⟨_, _, rfl⟩))
theorem c_ends_at (hC : Good codes) (hI : IntsAre its codes) (ht : (t, instObj 258 d) ∈ news) (hdt : (d, tokD w l at1 o k1 k2 k3 ta to') ∈ news) (hl : (l, listOf its.toArray n) ∈ news) (i : Int) (tk : Tok) (hi : 0 ≤ i) :
    Claim w mean mg mb 13 news 213 [.ref t, .int i tk] (Back (fun _ => .bool (endsC (codeAt codes i))) news) := by
  (unfold Claim; k_fill; w_top off)
  intro dp un gd cn cs a ccd cl outer A₀ base h₀ L m s Q E B F X N T hk hd hu hret
  k_with_none
  k_with "call ref" => (k_here; (with_reducible show wpAny _ _ (call (Value.ref 53) _) _ _ _); k_dflt (refine' c_is_layout _ _ _ _ _ _ _ _ _ _ _ _ _ _ _ _ _ _ _ ?k1 ?k2 ?k3 ?k4 ?k5 ?k6 ?k7 ?k8 ?_; (case k4 => k_asm); (case k1 => k_asm); (case k2 => k_asm); (case k3 => k_asm); (case k5 => k_asm); (case k6 => first | exact rfl | assumption); (case k7 => ktr_room); (case k8 => ktr_units)); intro _ _ _ _ _; (try dsimp only); (try k_sweep))
  k_with "call ref" => (k_here; (with_reducible show wpAny _ _ (call (Value.ref 143) _) _ _ _); k_dflt (refine' c_code_at ?hC ?hI ?ht ?hdt ?hl _ _ ?hi _ _ _ _ _ _ _ _ _ _ _ _ _ _ _ _ _ ?k1 ?k2 ?k3 ?k4 ?k5 ?k6 ?k7 ?k8 ?_; (case k4 => k_asm); (case k1 => k_asm); (case k2 => k_asm); (case k3 => k_asm); (case k5 => k_asm); (case k6 => first | exact rfl | assumption); (case k7 => ktr_room); (case k8 => ktr_units); (case hC => assumption); (case hI => assumption); (case ht => k_mem); (case hdt => k_mem); (case hl => k_mem); (case hi => omega)); intro _ _ _ _ _; (try dsimp only); (try k_sweep))
  k_with "call ref" => (k_here; (with_reducible show wpAny _ _ (call (Value.ref 143) _) _ _ _); k_dflt (refine' c_code_at_v ?hv ?hC ?hI ?ht ?hdt ?hl _ ?hi _ _ _ _ _ _ _ _ _ _ _ _ _ _ _ _ _ ?k1 ?k2 ?k3 ?k4 ?k5 ?k6 ?k7 ?k8 ?_; (case k4 => k_asm); (case k1 => k_asm); (case k2 => k_asm); (case k3 => k_asm); (case k5 => k_asm); (case k6 => first | exact rfl | assumption); (case k7 => ktr_room); (case k8 => ktr_units); (case hC => assumption); (case hv => with_reducible assumption); (case hI => assumption); (case ht => k_mem); (case hdt => k_mem); (case hl => k_mem); (case hi => omega)); intro _ _ _ _ _; (try dsimp only); (try k_sweep))
  have hz := hC.size
  k_steps
  all_goals (refine' cb_retB (Q := Q) hret ?e1 ?e2 ?e3; (case e2 => k_asm); (case e3 => k_asm); (case e1 => unfold endsC; first | (simp_all; done) | grind))
end


abbrev tup3 (a b c : Value) : Obj := { cls := .type "tuple", data := .seq [a, b, c].toArray }
/-- a method's call that moves the place to at2 and hands back a triple of a kind -/
abbrev MovesT (w : World) (K : Str → Prop) (at2 : Int) (t d l : Addr) (its : List Value) (n : Nat) (at1 o : Int) (k1 k2 k3 ta to' : Tok) (news : List (Addr × Obj)) (news' : Tok → List (Addr × Obj)) (h₀ : Heap) (L : Addr) (m : Str → Option Value) (s : Shared) (Q : Value → Shared → Prop) : Prop :=
  (∀ t2, Upd d (tokD w l at1 o k1 k2 k3 ta to') (tokD w l at2 o k1 k2 k3 t2 to') news (news' t2)) ∧
  ∀ (r : Addr) (x : Str) (tx : Tok) (v2 v3 : Value) (h' : Heap) (tk' : Nat) (t2 : Tok), K x → Fr h₀ L h' m → News h₀ L h' ((r, tup3 (.str x tx) v2 v3) :: news' t2) → Q (.ref r) { s with heap := h', toks := tk' }
theorem movesT_end {w : World} {K : Str → Prop} {at1 at2 a2 o : Int} {t d l r : Addr} {its : List Value} {n : Nat} {k1 k2 k3 ta to' t2 tx : Tok} {x : Str} {v2 v3 : Value} {news nn : List (Addr × Obj)} {news' : Tok → List (Addr × Obj)} {h₀ g h' : Heap} {L L' : Addr} {m m' : Str → Option Value} {s : Shared} {Q : Value → Shared → Prop} {tk : Nat}
    (hret : ∀ (r : Addr) (x : Str) (tx : Tok) (v2 v3 : Value) (h' : Heap) (tk' : Nat) (t2 : Tok), K x → Fr h₀ L h' m → News h₀ L h' ((r, tup3 (.str x tx) v2 v3) :: news' t2) → Q (.ref r) { s with heap := h', toks := tk' })
    (hU : ∀ t2, Upd d (tokD w l at1 o k1 k2 k3 ta to') (tokD w l at2 o k1 k2 k3 t2 to') news (news' t2))
    (F : Fr h₀ L s.heap m) (N : News h₀ L s.heap news) (ht : (t, instObj 258 d) ∈ news) (hl : (l, listOf its.toArray n) ∈ news) (hg : Rest s.heap [t, d, l] g)
    (F' : Fr g L' h' m') (kF : Fr h₀ L h' m) (kN : News h₀ L h' nn) (h0 : (r, tup3 (.str x tx) v2 v3) ∈ nn) (h1 : (t, instObj 258 d) ∈ nn) (h2 : (d, tokD w l a2 o k1 k2 k3 t2 to') ∈ nn) (h3 : (l, listOf its.toArray n) ∈ nn) (e : a2 = at2) (hV : K x) :
    Q (.ref r) { s with heap := h', toks := tk } := by
  subst e
  refine hret r x tx v2 v3 h' tk t2 hV kF fun p hp => ?_
  rcases List.mem_cons.mp hp with rfl | hp
  · exact kN _ h0
  · exact back3 hg F' F N (hU t2) ht hl (kN _ h1).1 (kN _ h2).1 (kN _ h3).1 p hp
def isEnd (codes : List Int) (a : Int) : Bool := codeAt codes a == 46 && endsC (codeAt codes (a + 1))
def symTok (codes : List Int) (a : Int) : Nat := if isEnd codes a then 1 else symLen (codes.drop a.toNat)
theorem end_yes {codes : List Int} {a : Int} (h1 : codeAt codes a = 46) (h2 : endsC (codeAt codes (a + 1)) = true) : isEnd codes a = true := by
  unfold isEnd; rw [h1, h2]; rfl
theorem end_no1 {codes : List Int} {a : Int} (h1 : codeAt codes a ≠ 46) : isEnd codes a = false := by
  unfold isEnd; rw [beq_eq_false_iff_ne.mpr h1]; rfl
theorem end_no2 {codes : List Int} {a : Int} (h2 : endsC (codeAt codes (a + 1)) = false) : isEnd codes a = false := by
  unfold isEnd; rw [h2, Bool.and_false]
theorem symTok_yes {codes : List Int} {a : Int} (h : isEnd codes a = true) : symTok codes a = 1 := by unfold symTok; rw [if_pos h]
theorem symTok_no {codes : List Int} {a : Int} (h : isEnd codes a = false) : symTok codes a = symLen (codes.drop a.toNat) := by unfold symTok; rw [if_neg (by rw [h]; exact Bool.false_ne_true)]
section
variable {w : World} {mean : ExcName → Option Value} {mg mb : Str → Option Value} {news : List (Addr × Obj)} {news' : Tok → List (Addr × Obj)} {t d l : Addr} {its : List Value} {n : Nat} {codes : List Int} {at1 o : Int} {k1 k2 k3 ta to' : Tok}
theorem c_symbol (hC : Good codes) (hI : IntsAre its codes) (ht : (t, instObj 258 d) ∈ news) (hdt : (d, tokD w l at1 o k1 k2 k3 ta to') ∈ news) (hl : (l, listOf its.toArray n) ∈ news) (h0 : 0 ≤ at1) (o1 : t ≠ d) (o2 : l ≠ d) (tk1 : Tok) (hin : at1 ≤ codes.length) :
    Claim w mean mg mb 18 news 206 [.ref t, .int at1 tk1] (MovesT w (fun x => x = if isEnd codes at1 then Str.ofString "end" else Str.ofString "name") (at1 + symTok codes at1) t d l its n at1 o k1 k2 k3 ta to' news news') := by
  (unfold Claim; k_fill; w_top off)
  intro dp un gd cn cs a ccd cl outer A₀ base h₀ L m s Q E B F X N T hk hd hu ⟨hU, hret⟩
  k_with_none
  k_with "call ref" => (k_here; (with_reducible show wpAny _ _ (call (Value.ref 143) _) _ _ _); k_dflt (refine' c_code_at ?hC ?hI ?ht ?hdt ?hl _ _ ?hi _ _ _ _ _ _ _ _ _ _ _ _ _ _ _ _ _ ?k1 ?k2 ?k3 ?k4 ?k5 ?k6 ?k7 ?k8 ?_; (case k4 => k_asm); (case k1 => k_asm); (case k2 => k_asm); (case k3 => k_asm); (case k5 => k_asm); (case k6 => first | exact rfl | assumption); (case k7 => ktr_room); (case k8 => ktr_units); (case hC => assumption); (case hI => assumption); (case ht => k_mem); (case hdt => k_mem); (case hl => k_mem); (case hi => omega)); intro _ _ _ _ _; (try dsimp only); (try k_sweep))
  k_with "call ref" => (k_here; (with_reducible show wpAny _ _ (call (Value.ref 143) _) _ _ _); k_dflt (refine' c_code_at_v ?hv ?hC ?hI ?ht ?hdt ?hl _ ?hi _ _ _ _ _ _ _ _ _ _ _ _ _ _ _ _ _ ?k1 ?k2 ?k3 ?k4 ?k5 ?k6 ?k7 ?k8 ?_; (case k4 => k_asm); (case k1 => k_asm); (case k2 => k_asm); (case k3 => k_asm); (case k5 => k_asm); (case k6 => first | exact rfl | assumption); (case k7 => ktr_room); (case k8 => ktr_units); (case hC => assumption); (case hv => with_reducible assumption); (case hI => assumption); (case ht => k_mem); (case hdt => k_mem); (case hl => k_mem); (case hi => omega)); intro _ _ _ _ _; (try dsimp only); (try k_sweep))
  k_with "call ref" => (k_here; (with_reducible show wpAny _ _ (call (Value.ref 88) _) _ _ _); k_dflt (refine' c_is_symbol _ _ _ _ _ _ _ _ _ _ _ _ _ _ _ _ _ _ _ ?k1 ?k2 ?k3 ?k4 ?k5 ?k6 ?k7 ?k8 ?_; (case k4 => k_asm); (case k1 => k_asm); (case k2 => k_asm); (case k3 => k_asm); (case k5 => k_asm); (case k6 => first | exact rfl | assumption); (case k7 => ktr_room); (case k8 => ktr_units)); intro _ _ _ _ _; (try dsimp only); (try k_sweep))
  k_with "call ref" => (k_here; (with_reducible show wpAny _ _ (call (Value.ref 107) _) _ _ _); k_dflt (refine' c_codes_text ?hc ?hI ?hr ?hz _ _ _ _ _ _ _ _ _ _ _ _ _ _ _ _ _ ?k1 ?k2 ?k3 ?k4 ?k5 ?k6 ?k7 ?k8 ?_; (case k4 => k_asm); (case k1 => k_asm); (case k2 => k_asm); (case k3 => k_asm); (case k5 => k_asm); (case k6 => first | exact rfl | assumption); (case k7 => ktr_room); (case k8 => ktr_units); (case hc => k_mem); (case hI => assumption); (case hr => first | exact good_slice (by assumption) | assumption); (case hz => first | exact good_len (by assumption) | assumption)); intro _ _ _ _ _ _; (try dsimp only); (try k_sweep))
  k_with "call ref" => (k_here; (with_reducible show wpAny _ _ (call (Value.ref 213) _) _ _ _); k_dflt (refine' c_ends_at ?hC ?hI ?ht ?hdt ?hl _ _ ?hi _ _ _ _ _ _ _ _ _ _ _ _ _ _ _ _ _ ?k1 ?k2 ?k3 ?k4 ?k5 ?k6 ?k7 ?k8 ?_; (case k4 => k_asm); (case k1 => k_asm); (case k2 => k_asm); (case k3 => k_asm); (case k5 => k_asm); (case k6 => first | exact rfl | assumption); (case k7 => ktr_room); (case k8 => ktr_units); (case hC => assumption); (case hI => assumption); (case ht => k_mem); (case hdt => k_mem); (case hl => k_mem); (case hi => omega)); intro _ _ _ _ _; (try dsimp only); (try k_sweep))
  k_with "exec While" => k_while (fun _ e => 0 ≤ e ∧ e + symLen (codes.drop e.toNat) = at1 + symLen (codes.drop at1.toNat) ∧ e ≤ codes.length ∧ at1 ≤ e) (fun _ e => codes.length - e.toNat) "end"
  k_with "state" => (k_dflt (first | exact ⟨by omega, rfl, by omega, by omega⟩ | exact (have z := sym_go (by assumption) (by assumption) (by assumption); ⟨z.1, z.2.1, z.2.2, by omega⟩)))
  k_with "measure" => (k_dflt (exact lay_less (by assumption) (symbol_here (by assumption)) (by omega)))
  have N3 : News h₀ L s.heap [(t, instObj 258 d), (d, tokD w l at1 o k1 k2 k3 ta to'), (l, listOf its.toArray n)] := cb_drop N (by simp only [List.forall_mem_cons, List.not_mem_nil, false_implies, implies_true, and_true]; exact ⟨ht, hdt, hl⟩)
  have hz := hC.size
  have o1' := neN o1
  have o2' := neN o2
  refine wpAny_call ?_
  k_dflt (refine' enter3 ?k1 ?k2 ?k3 ?k4 ?k5 ?kA ?kF ?kK ?k6 ?k7 ?k8 ?k9 ?kB ?_ ?c2 ?c3 ?c4 ?c5; (case kA => exact rfl); (case kF => exact rfl); (case kK => first | exact rfl | assumption); (case k1 => k_asm); (case k2 => k_asm); (case k3 => k_asm); (case k4 => exact N3); (case k5 => k_asm); (case k6 => k_is); (case k7 => k_is); (case k8 => ktr_room); (case k9 => first | exact BindsTo.of_eq rfl | exact binds_K (by k_in) rfl (by k_is) rfl rfl rfl); (case c5 => decide); (case kB => exact locs rfl); (case c2 => exact rfl); (case c3 => exact rfl); (case c4 => exact rfl); k_whole; intro g' L' h' hg FG' F' N' B' X' T'; (try dsimp only); (try k_lift B'); (try k_fold))
  (rename News _ _ _ _ => N8); dsimp only [tokD] at N8
  k_steps
  all_goals first
    | (have hE := end_yes (codes := codes) (a := at1) (by assumption) (by assumption); have hS := symTok_yes hE; (refine' movesT_end (Q := Q) hret hU F N ht hl hg ?F' ?kF ?kN ?h0 ?h1 ?h2 ?h3 ?e ?hV; (case F' => k_asm); (case kF => k_asm); (case kN => k_asm); (case h0 => k_mem); (case h1 => k_mem); (case h2 => k_mem); (case h3 => k_mem); (case e => omega); (case hV => rw [if_pos hE])))
    | ((first | have hE := end_no1 (codes := codes) (a := at1) (by assumption) | have hE := end_no2 (codes := codes) (a := at1) (by assumption)); have hS := symTok_no hE; have hO := sym_out' (codes := codes) (by assumption); (refine' movesT_end (Q := Q) hret hU F N ht hl hg ?F' ?kF ?kN ?h0 ?h1 ?h2 ?h3 ?e ?hV; (case F' => k_asm); (case kF => k_asm); (case kN => k_asm); (case h0 => k_mem); (case h1 => k_mem); (case h2 => k_mem); (case h3 => k_mem); (case e => omega); (case hV => rw [hE]; rfl)))
end


def digLen : List Int → Nat
  | [] => 0
  | c :: r => if isDigit c then digLen r + 1 else 0
theorem dig_out {codes : List Int} {a : Int} (h : isDigit (codeAt codes a) = false) : digLen (codes.drop a.toNat) = 0 := by
  unfold codeAt at h
  generalize codes.drop a.toNat = q at h
  cases q with
  | nil => rfl
  | cons c r => rw [hdC_cons] at h; simp [digLen, h]
theorem digitValue_no {c : Int} (h : digitValue c < 0 ∨ 10 ≤ digitValue c) : isDigit c = false := by
  cases q : isDigit c with
  | false => rfl
  | true =>
    unfold digitValue at h
    rw [q] at h
    simp only [if_true] at h
    unfold isDigit at q
    simp only [Bool.and_eq_true, decide_eq_true_eq] at q
    omega
theorem digitValue_yes {c : Int} (h1 : 0 ≤ digitValue c) (h2 : digitValue c < 10) : isDigit c = true := by
  cases q : isDigit c with
  | true => rfl
  | false =>
    unfold digitValue isSmall isCapital at h1 h2
    rw [q] at h1 h2
    simp only [Bool.false_eq_true, if_false, Bool.and_eq_true, decide_eq_true_eq] at h1 h2
    exfalso
    split at h1
    · rename_i hs; rw [if_pos hs] at h2; omega
    · rename_i hs
      rw [if_neg hs] at h2
      split at h1
      · rename_i hc; rw [if_pos hc] at h2; omega
      · omega
theorem digit_here {c : Int} (h : isDigit c = true) : 0 ≤ c := by
  unfold isDigit at h
  simp only [Bool.and_eq_true, decide_eq_true_eq] at h
  omega
def DigB (k v : Int) : Prop := (k = 0 ∧ v = 0) ∨ (k = 1 ∧ v < 10) ∨ (k = 2 ∧ v < 100) ∨ (k = 3 ∧ v < 1000)
theorem dig_go {codes : List Int} {a T i0 v : Int} (h0 : 0 ≤ a) (hT : a + digLen (codes.drop a.toNat) = T) (hb : T ≤ i0 + 3) (hle : i0 ≤ a) (hv : 0 ≤ v) (hB : DigB (a - i0) v) (h1 : 0 ≤ digitValue (codeAt codes a)) (h2 : digitValue (codeAt codes a) < 10) :
    0 ≤ a + 1 ∧ a + 1 + digLen (codes.drop (a + 1).toNat) = T ∧ i0 ≤ a + 1 ∧ 0 ≤ v * 10 + digitValue (codeAt codes a) ∧ v * 10 + digitValue (codeAt codes a) < 1000 ∧ DigB (a + 1 - i0) (v * 10 + digitValue (codeAt codes a)) := by
  have hd := digitValue_yes h1 h2
  have key : a + 1 + digLen (codes.drop (a + 1).toNat) = T := by
    rw [drop_one' h0]
    unfold codeAt at hd
    generalize codes.drop a.toNat = q at hd hT
    cases q with
    | nil => exact absurd hd (by decide)
    | cons c r =>
      rw [hdC_cons] at hd
      simp only [digLen, hd, if_true, List.tail_cons] at hT ⊢
      omega
  have hB' : DigB (a + 1 - i0) (v * 10 + digitValue (codeAt codes a)) := by
    unfold DigB at hB ⊢
    rcases hB with ⟨x, y⟩ | ⟨x, y⟩ | ⟨x, y⟩ | ⟨x, y⟩
    · exact .inr (.inl ⟨by omega, by omega⟩)
    · exact .inr (.inr (.inl ⟨by omega, by omega⟩))
    · exact .inr (.inr (.inr ⟨by omega, by omega⟩))
    · exact absurd key (by omega)
  refine ⟨by omega, key, by omega, by omega, ?_, hB'⟩
  unfold DigB at hB'
  omega
theorem dig_less {codes : List Int} {a : Int} (h0 : 0 ≤ a) (h1 : 0 ≤ digitValue (codeAt codes a)) (h2 : digitValue (codeAt codes a) < 10) : codes.length - (a + 1).toNat < codes.length - a.toNat :=
  lay_less h0 (digit_here (digitValue_yes h1 h2)) (by omega)
section
variable {w : World} {mean : ExcName → Option Value} {mg mb : Str → Option Value} {news : List (Addr × Obj)} {news' : Tok → List (Addr × Obj)} {t d l : Addr} {its : List Value} {n : Nat} {codes : List Int} {at1 o : Int} {k1 k2 k3 ta to' : Tok}
theorem c_digits {i0 : Int} (hC : Good codes) (hI : IntsAre its codes) (ht : (t, instObj 258 d) ∈ news) (hdt : (d, tokD w l at1 o k1 k2 k3 ta to') ∈ news) (hl : (l, listOf its.toArray n) ∈ news) (h0 : 0 ≤ at1) (o1 : t ≠ d) (o2 : l ≠ d) (tk1 tk2 : Tok) (hi0 : 0 ≤ i0) (hdl : digLen (codes.drop i0.toNat) ≤ 3) :
    Claim w mean mg mb 16 news 227 [.ref t, .int i0 tk1, .int 10 tk2] (Moves w (fun v => ∃ x tk, v = .int x tk) (i0 + digLen (codes.drop i0.toNat)) t d l its n at1 o k1 k2 k3 ta to' news news') := by
  (unfold Claim; k_fill; w_top off)
  intro dp un gd cn cs a ccd cl outer A₀ base h₀ L m s Q E B F X N T hk hd hu ⟨hU, hret⟩
  k_with_none
  k_with "call ref" => (k_here; (with_reducible show wpAny _ _ (call (Value.ref 143) _) _ _ _); k_dflt (refine' c_code_at ?hC ?hI ?ht ?hdt ?hl _ _ ?hi _ _ _ _ _ _ _ _ _ _ _ _ _ _ _ _ _ ?k1 ?k2 ?k3 ?k4 ?k5 ?k6 ?k7 ?k8 ?_; (case k4 => k_asm); (case k1 => k_asm); (case k2 => k_asm); (case k3 => k_asm); (case k5 => k_asm); (case k6 => first | exact rfl | assumption); (case k7 => ktr_room); (case k8 => ktr_units); (case hC => assumption); (case hI => assumption); (case ht => k_mem); (case hdt => k_mem); (case hl => k_mem); (case hi => omega)); intro _ _ _ _ _; (try dsimp only); (try k_sweep))
  k_with "call ref" => (k_here; (with_reducible show wpAny _ _ (call (Value.ref 143) _) _ _ _); k_dflt (refine' c_code_at_v ?hv ?hC ?hI ?ht ?hdt ?hl _ ?hi _ _ _ _ _ _ _ _ _ _ _ _ _ _ _ _ _ ?k1 ?k2 ?k3 ?k4 ?k5 ?k6 ?k7 ?k8 ?_; (case k4 => k_asm); (case k1 => k_asm); (case k2 => k_asm); (case k3 => k_asm); (case k5 => k_asm); (case k6 => first | exact rfl | assumption); (case k7 => ktr_room); (case k8 => ktr_units); (case hC => assumption); (case hv => with_reducible assumption); (case hI => assumption); (case ht => k_mem); (case hdt => k_mem); (case hl => k_mem); (case hi => omega)); intro _ _ _ _ _; (try dsimp only); (try k_sweep))
  k_with "call ref" => (k_here; (with_reducible show wpAny _ _ (call (Value.ref 102) _) _ _ _); k_dflt (refine' c_digit_value _ _ _ _ _ _ _ _ _ _ _ _ _ _ _ _ _ _ _ ?k1 ?k2 ?k3 ?k4 ?k5 ?k6 ?k7 ?k8 ?_; (case k4 => k_asm); (case k1 => k_asm); (case k2 => k_asm); (case k3 => k_asm); (case k5 => k_asm); (case k6 => first | exact rfl | assumption); (case k7 => ktr_room); (case k8 => ktr_units)); intro _ _ _ _ _; (try dsimp only); (try k_sweep))
  k_with "exec While" => k_while (fun _ i v => 0 ≤ i ∧ i + digLen (codes.drop i.toNat) = i0 + digLen (codes.drop i0.toNat) ∧ i0 ≤ i ∧ 0 ≤ v ∧ v < 1000 ∧ DigB (i - i0) v) (fun _ i _ => codes.length - i.toNat) "index" "value"
  k_with "state" => (k_dflt (first | exact ⟨by omega, rfl, by omega, by omega, by omega, .inl ⟨by omega, rfl⟩⟩ | exact dig_go (by assumption) (by assumption) (by omega) (by assumption) (by assumption) (by assumption) (by omega) (by omega)))
  k_with "measure" => (k_dflt (exact dig_less (by assumption) (by omega) (by omega)))
  have N3 : News h₀ L s.heap [(t, instObj 258 d), (d, tokD w l at1 o k1 k2 k3 ta to'), (l, listOf its.toArray n)] := cb_drop N (by simp only [List.forall_mem_cons, List.not_mem_nil, false_implies, implies_true, and_true]; exact ⟨ht, hdt, hl⟩)
  have hz := hC.size
  have o1' := neN o1
  have o2' := neN o2
  refine wpAny_call ?_
  k_dflt (refine' enter3 ?k1 ?k2 ?k3 ?k4 ?k5 ?kA ?kF ?kK ?k6 ?k7 ?k8 ?k9 ?kB ?_ ?c2 ?c3 ?c4 ?c5; (case kA => exact rfl); (case kF => exact rfl); (case kK => first | exact rfl | assumption); (case k1 => k_asm); (case k2 => k_asm); (case k3 => k_asm); (case k4 => exact N3); (case k5 => k_asm); (case k6 => k_is); (case k7 => k_is); (case k8 => ktr_room); (case k9 => first | exact BindsTo.of_eq rfl | exact binds_K (by k_in) rfl (by k_is) rfl rfl rfl); (case c5 => decide); (case kB => exact locs rfl); (case c2 => exact rfl); (case c3 => exact rfl); (case c4 => exact rfl); k_whole; intro g' L' h' hg FG' F' N' B' X' T'; (try dsimp only); (try k_lift B'); (try k_fold))
  (rename News _ _ _ _ => N8); dsimp only [tokD] at N8
  k_steps
  all_goals (refine' moves_end (Q := Q) hret hU F N ht hl hg ?F' ?kF ?kN ?h1 ?h2 ?h3 ?e ?hV; (case F' => k_asm); (case kF => k_asm); (case kN => k_asm); (case h1 => k_mem); (case h2 => k_mem); (case h3 => k_mem); (case e => first | (have := dig_out (codes := codes) (digitValue_no (.inl (by assumption))); omega) | (have := dig_out (codes := codes) (digitValue_no (.inr (by assumption))); omega)); (case hV => exact ⟨_, _, rfl⟩))
theorem nought_at {codes : List Int} (hC : Good codes) {a : Int} (h0 : 0 ≤ a) (h : codeAt codes a = 48) : codeAt codes (a + 1) = 39 ∧ codeAt codes (a + 2) = 46 := by
  have h1 := codeAt_some (codes := codes) h0 (by omega)
  rw [codeAt_in h1 h0] at h
  obtain ⟨p, q⟩ := hC.nought _ h
  have hs : ∀ j : Nat, codes.getD j 0 ≠ 0 → j < codes.length := fun j hj => by
    rcases Nat.lt_or_ge j codes.length with z | z
    · exact z
    · exact absurd (by rw [List.getD_eq_getElem?_getD, List.getElem?_eq_none z]; rfl) hj
  have e1 : (a + 1).toNat = a.toNat + 1 := by omega
  have e2 : (a + 2).toNat = a.toNat + 2 := by omega
  have z1 := hs (a.toNat + 1) (by omega)
  have z2 := hs (a.toNat + 2) (by omega)
  exact ⟨by rw [codeAt_in (by omega) (by omega), e1]; exact p, by rw [codeAt_in (by omega) (by omega), e2]; exact q⟩
theorem esc_at {codes : List Int} (hC : Good codes) {a : Int} (h0 : 0 ≤ a) (h : codeAt codes a = 92) : codeAt codes (a + 1) = 113 := by
  have h1 := codeAt_some (codes := codes) h0 (by omega)
  rw [codeAt_in h1 h0] at h
  have p := hC.esc _ h
  have hs : a.toNat + 1 < codes.length := by
    rcases Nat.lt_or_ge (a.toNat + 1) codes.length with z | z
    · exact z
    · rw [List.getD_eq_getElem?_getD, List.getElem?_eq_none z] at p; cases p
  have e1 : (a + 1).toNat = a.toNat + 1 := by omega
  rw [codeAt_in (by omega) (by omega), e1]; exact p
theorem c_character (hC : Good codes) (hI : IntsAre its codes) (ht : (t, instObj 258 d) ∈ news) (hdt : (d, tokD w l at1 o k1 k2 k3 ta to') ∈ news) (hl : (l, listOf its.toArray n) ∈ news) (h0 : 0 ≤ at1) (o1 : t ≠ d) (o2 : l ≠ d) (tk1 : Tok) (hn : codeAt codes at1 = 48) :
    Claim w mean mg mb 16 news 234 [.ref t, .int at1 tk1] (Moves w (fun v => ∃ x tk, v = .int x tk) (at1 + 3) t d l its n at1 o k1 k2 k3 ta to' news news') := by
  (unfold Claim; k_fill; w_top off)
  intro dp un gd cn cs a ccd cl outer A₀ base h₀ L m s Q E B F X N T hk hd hu ⟨hU, hret⟩
  k_with_none
  k_with "call ref" => (k_here; (with_reducible show wpAny _ _ (call (Value.ref 143) _) _ _ _); k_dflt (refine' c_code_at ?hC ?hI ?ht ?hdt ?hl _ _ ?hi _ _ _ _ _ _ _ _ _ _ _ _ _ _ _ _ _ ?k1 ?k2 ?k3 ?k4 ?k5 ?k6 ?k7 ?k8 ?_; (case k4 => k_asm); (case k1 => k_asm); (case k2 => k_asm); (case k3 => k_asm); (case k5 => k_asm); (case k6 => first | exact rfl | assumption); (case k7 => ktr_room); (case k8 => ktr_units); (case hC => assumption); (case hI => assumption); (case ht => k_mem); (case hdt => k_mem); (case hl => k_mem); (case hi => omega)); intro _ _ _ _ _; (try dsimp only); (try k_sweep))
  k_with "call ref" => (k_here; (with_reducible show wpAny _ _ (call (Value.ref 143) _) _ _ _); k_dflt (refine' c_code_at_v ?hv ?hC ?hI ?ht ?hdt ?hl _ ?hi _ _ _ _ _ _ _ _ _ _ _ _ _ _ _ _ _ ?k1 ?k2 ?k3 ?k4 ?k5 ?k6 ?k7 ?k8 ?_; (case k4 => k_asm); (case k1 => k_asm); (case k2 => k_asm); (case k3 => k_asm); (case k5 => k_asm); (case k6 => first | exact rfl | assumption); (case k7 => ktr_room); (case k8 => ktr_units); (case hC => assumption); (case hv => with_reducible assumption); (case hI => assumption); (case ht => k_mem); (case hdt => k_mem); (case hl => k_mem); (case hi => omega)); intro _ _ _ _ _; (try dsimp only); (try k_sweep))
  k_with "call ref" => (k_here; (with_reducible show wpAny _ _ (call (Value.ref 95) _) _ _ _); k_dflt (refine' c_is_quotable _ _ ?q1 ?q2 ?q3 _ _ _ _ _ _ _ _ _ _ _ _ _ _ _ _ _ ?k1 ?k2 ?k3 ?k4 ?k5 ?k6 ?k7 ?k8 ?_; (case k4 => k_asm); (case k1 => k_asm); (case k2 => k_asm); (case k3 => k_asm); (case k5 => k_asm); (case k6 => first | exact rfl | assumption); (case k7 => ktr_room); (case k8 => ktr_units); (case q1 => omega); (case q2 => omega); (case q3 => omega)); intro _ _ _ _ _; (try dsimp only); (try k_sweep))
  have hcc := (nought_at hC h0 hn).2
  have N3 : News h₀ L s.heap [(t, instObj 258 d), (d, tokD w l at1 o k1 k2 k3 ta to'), (l, listOf its.toArray n)] := cb_drop N (by simp only [List.forall_mem_cons, List.not_mem_nil, false_implies, implies_true, and_true]; exact ⟨ht, hdt, hl⟩)
  have hz := hC.size
  have o1' := neN o1
  have o2' := neN o2
  refine wpAny_call ?_
  k_dflt (refine' enter3 ?k1 ?k2 ?k3 ?k4 ?k5 ?kA ?kF ?kK ?k6 ?k7 ?k8 ?k9 ?kB ?_ ?c2 ?c3 ?c4 ?c5; (case kA => exact rfl); (case kF => exact rfl); (case kK => first | exact rfl | assumption); (case k1 => k_asm); (case k2 => k_asm); (case k3 => k_asm); (case k4 => exact N3); (case k5 => k_asm); (case k6 => k_is); (case k7 => k_is); (case k8 => ktr_room); (case k9 => first | exact BindsTo.of_eq rfl | exact binds_K (by k_in) rfl (by k_is) rfl rfl rfl); (case c5 => decide); (case kB => exact locs rfl); (case c2 => exact rfl); (case c3 => exact rfl); (case c4 => exact rfl); k_whole; intro g' L' h' hg FG' F' N' B' X' T'; (try dsimp only); (try k_lift B'); (try k_fold))
  (rename News _ _ _ _ => N8); dsimp only [tokD] at N8
  k_steps
  all_goals (refine' moves_end (Q := Q) hret hU F N ht hl hg ?F' ?kF ?kN ?h1 ?h2 ?h3 ?e ?hV; (case F' => k_asm); (case kF => k_asm); (case kN => k_asm); (case h1 => k_mem); (case h2 => k_mem); (case h3 => k_mem); (case e => omega); (case hV => exact ⟨_, _, rfl⟩))
theorem c_escape (hC : Good codes) (hI : IntsAre its codes) (ht : (t, instObj 258 d) ∈ news) (hdt : (d, tokD w l at1 o k1 k2 k3 ta to') ∈ news) (hl : (l, listOf its.toArray n) ∈ news) (h0 : 0 ≤ at1) (hn : codeAt codes at1 = 92) :
    Claim w mean mg mb 16 news 248 [.ref t] (Back (fun t => .int (-1) t) news) := by
  (unfold Claim; k_fill; w_top off)
  intro dp un gd cn cs a ccd cl outer A₀ base h₀ L m s Q E B F X N T hk hd hu hret
  k_with_none
  k_with "call ref" => (k_here; (with_reducible show wpAny _ _ (call (Value.ref 143) _) _ _ _); k_dflt (refine' c_code_at ?hC ?hI ?ht ?hdt ?hl _ _ ?hi _ _ _ _ _ _ _ _ _ _ _ _ _ _ _ _ _ ?k1 ?k2 ?k3 ?k4 ?k5 ?k6 ?k7 ?k8 ?_; (case k4 => k_asm); (case k1 => k_asm); (case k2 => k_asm); (case k3 => k_asm); (case k5 => k_asm); (case k6 => first | exact rfl | assumption); (case k7 => ktr_room); (case k8 => ktr_units); (case hC => assumption); (case hI => assumption); (case ht => k_mem); (case hdt => k_mem); (case hl => k_mem); (case hi => omega)); intro _ _ _ _ _; (try dsimp only); (try k_sweep))
  k_with "call ref" => (k_here; (with_reducible show wpAny _ _ (call (Value.ref 143) _) _ _ _); k_dflt (refine' c_code_at_v ?hv ?hC ?hI ?ht ?hdt ?hl _ ?hi _ _ _ _ _ _ _ _ _ _ _ _ _ _ _ _ _ ?k1 ?k2 ?k3 ?k4 ?k5 ?k6 ?k7 ?k8 ?_; (case k4 => k_asm); (case k1 => k_asm); (case k2 => k_asm); (case k3 => k_asm); (case k5 => k_asm); (case k6 => first | exact rfl | assumption); (case k7 => ktr_room); (case k8 => ktr_units); (case hC => assumption); (case hv => with_reducible assumption); (case hI => assumption); (case ht => k_mem); (case hdt => k_mem); (case hl => k_mem); (case hi => omega)); intro _ _ _ _ _; (try dsimp only); (try k_sweep))
  k_with "call ref" => (k_here; (with_reducible show wpAny _ _ (call (Value.ref 102) _) _ _ _); k_dflt (refine' c_digit_value _ _ _ _ _ _ _ _ _ _ _ _ _ _ _ _ _ _ _ ?k1 ?k2 ?k3 ?k4 ?k5 ?k6 ?k7 ?k8 ?_; (case k4 => k_asm); (case k1 => k_asm); (case k2 => k_asm); (case k3 => k_asm); (case k5 => k_asm); (case k6 => first | exact rfl | assumption); (case k7 => ktr_room); (case k8 => ktr_units)); intro _ _ _ _ _; (try dsimp only); (try k_sweep))
  k_with "exec While" => (k_dflt (refine whl_start 100 ?_))
  have hcc := esc_at hC h0 hn
  have hz := hC.size
  k_steps
  all_goals (refine' cb_retI (Q := Q) hret ?e1 ?e2 ?e3; (case e2 => k_asm); (case e3 => k_asm); (case e1 => rfl))
end


theorem back3s {h₀ g h h' : Heap} {L L' : Addr} {m' : Str → Option Value} {news : List (Addr × Obj)} {t d l : Addr} {ot od ol : Obj}
    (hg : Rest h [t, d, l] g) (F' : Fr g L' h' m') (N : News h₀ L h news) (ht : (t, ot) ∈ news) (hd : (d, od) ∈ news) (hl : (l, ol) ∈ news)
    (h1 : h'.get? t = some ot) (h2 : h'.get? d = some od) (h3 : h'.get? l = some ol) : News h₀ L h' news := fun p hp => by
  have e := (N p hp).1
  refine ⟨?_, (N p hp).2⟩
  by_cases q1 : p.1 = t
  · rw [q1] at e ⊢; rw [h1, ← e, (N _ ht).1]
  by_cases q2 : p.1 = l
  · rw [q2] at e ⊢; rw [h3, ← e, (N _ hl).1]
  by_cases q3 : p.1 = d
  · rw [q3] at e ⊢; rw [h2, ← e, (N _ hd).1]
  exact F'.keep _ _ (hg _ _ e (by simp only [List.mem_cons, List.not_mem_nil, or_false, not_or]; exact ⟨q1, q3, q2⟩))
theorem cons3 {h₀ h' : Heap} {L r : Addr} {o : Obj} {nn news : List (Addr × Obj)} (kN : News h₀ L h' nn) (hm : (r, o) ∈ nn) (N : News h₀ L h' news) : News h₀ L h' ((r, o) :: news) := fun p hp => by
  rcases List.mem_cons.mp hp with rfl | hp
  · exact kN _ hm
  · exact N p hp
abbrev tup2 (a b : Value) : Obj := { cls := .type "tuple", data := .seq [a, b].toArray }
def plStep (p : Int × Int) (x : Int) : Int × Int := if x = 10 then (p.1 + 1, 1) else (p.1, p.2 + 1)
def placeOf (codes : List Int) (i : Int) : Int × Int := (codes.take i.toNat).foldl plStep (1, 1)
def PlInv (codes : List Int) (i r c : Int) : Prop := placeOf codes i = (r, c)
theorem pl_start (codes : List Int) : PlInv codes 0 1 1 := rfl
theorem pl_snoc {codes : List Int} {i : Int} (h0 : 0 ≤ i) (h : i < codes.length) : placeOf codes (i + 1) = plStep (placeOf codes i) (codes.getD i.toNat 0) := by
  unfold placeOf
  have hi : i.toNat < codes.length := by omega
  rw [show (i + 1).toNat = i.toNat + 1 from by omega, List.take_succ_eq_append_getElem hi, List.foldl_append, List.getD_eq_getElem?_getD, List.getElem?_eq_getElem hi]
  rfl
theorem pl_row {codes : List Int} {i r c at9 : Int} (h0 : 0 ≤ i) (hb : i < at9) (h : i < codes.length) (hP : PlInv codes i r c) (h1 : 1 ≤ r) (h2 : r ≤ 1 + i) (h3 : 1 ≤ c) (h4 : c ≤ 1 + i) (hx : codes.getD i.toNat 0 = 10) :
    0 ≤ i + 1 ∧ i + 1 ≤ codes.length ∧ i + 1 ≤ at9 ∧ 1 ≤ r + 1 ∧ r + 1 ≤ 1 + (i + 1) ∧ (1 : Int) ≤ 1 ∧ (1 : Int) ≤ 1 + (i + 1) ∧ PlInv codes (i + 1) (r + 1) 1 :=
  ⟨by omega, by omega, by omega, by omega, by omega, by omega, by omega, by unfold PlInv at *; rw [pl_snoc h0 h, hP, plStep, if_pos hx]⟩
theorem pl_col {codes : List Int} {i r c at9 : Int} (h0 : 0 ≤ i) (hb : i < at9) (h : i < codes.length) (hP : PlInv codes i r c) (h1 : 1 ≤ r) (h2 : r ≤ 1 + i) (h3 : 1 ≤ c) (h4 : c ≤ 1 + i) (hx : ¬ codes.getD i.toNat 0 = 10) :
    0 ≤ i + 1 ∧ i + 1 ≤ codes.length ∧ i + 1 ≤ at9 ∧ 1 ≤ r ∧ r ≤ 1 + (i + 1) ∧ 1 ≤ c + 1 ∧ c + 1 ≤ 1 + (i + 1) ∧ PlInv codes (i + 1) r (c + 1) :=
  ⟨by omega, by omega, by omega, by omega, by omega, by omega, by omega, by unfold PlInv at *; rw [pl_snoc h0 h, hP, plStep, if_neg hx]⟩
theorem pl_end {codes : List Int} {i r c at9 : Int} (h0 : 0 ≤ i) (h1 : i ≤ codes.length) (h2 : i ≤ at9) (hP : PlInv codes i r c) (he : at9 ≤ i ∨ codes.length ≤ i) : placeOf codes at9 = (r, c) := by
  rw [← hP]
  rcases he with he | he
  · rw [show at9 = i from by omega]
  · unfold placeOf
    rw [List.take_of_length_le (by omega), List.take_of_length_le (by omega)]
section
variable {w : World} {mean : ExcName → Option Value} {mg mb : Str → Option Value} {news : List (Addr × Obj)} {news' : Tok → List (Addr × Obj)} {t d l : Addr} {its : List Value} {n : Nat} {codes : List Int} {at1 o : Int} {k1 k2 k3 ta to' : Tok}
theorem c_place {at9 : Int} (hC : Good codes) (hI : IntsAre its codes) (ht : (t, instObj 258 d) ∈ news) (hdt : (d, tokD w l at1 o k1 k2 k3 ta to') ∈ news) (hl : (l, listOf its.toArray n) ∈ news) (o1 : t ≠ d) (o2 : l ≠ d) (tk1 : Tok) (h9 : 0 ≤ at9) :
    Claim w mean mg mb 12 news 150 [.ref t, .int at9 tk1] (fun h₀ L m s Q => ∀ (r : Addr) (x y : Int) (tx ty : Tok) (h' : Heap) (tk' : Nat), placeOf codes at9 = (x, y) → 1 ≤ x → x ≤ 201 → 1 ≤ y → y ≤ 201 → Fr h₀ L h' m → News h₀ L h' ((r, tup2 (.int x tx) (.int y ty)) :: news) → Q (.ref r) { s with heap := h', toks := tk' }) := by
  (unfold Claim; k_fill; w_top off)
  intro dp un gd cn cs a ccd cl outer A₀ base h₀ L m s Q E B F X N T hk hd hu hret
  k_with_none
  k_with "exec While" => k_while (fun _ r c i => 0 ≤ i ∧ i ≤ codes.length ∧ i ≤ at9 ∧ 1 ≤ r ∧ r ≤ 1 + i ∧ 1 ≤ c ∧ c ≤ 1 + i ∧ PlInv codes i r c) (fun _ _ _ i => codes.length - i.toNat) "row" "column" "index"
  k_with "state" => (k_dflt (first | exact ⟨by omega, by omega, by omega, by omega, by omega, by omega, by omega, pl_start codes⟩ | exact pl_row (by assumption) (by omega) (by omega) (by assumption) (by assumption) (by assumption) (by assumption) (by assumption) (by assumption) | exact pl_col (by assumption) (by omega) (by omega) (by assumption) (by assumption) (by assumption) (by assumption) (by assumption) (by assumption)))
  have N3 : News h₀ L s.heap [(t, instObj 258 d), (d, tokD w l at1 o k1 k2 k3 ta to'), (l, listOf its.toArray n)] := cb_drop N (by simp only [List.forall_mem_cons, List.not_mem_nil, false_implies, implies_true, and_true]; exact ⟨ht, hdt, hl⟩)
  have hz := hC.size
  have o1' := neN o1
  have o2' := neN o2
  refine wpAny_call ?_
  k_dflt (refine' enter3 ?k1 ?k2 ?k3 ?k4 ?k5 ?kA ?kF ?kK ?k6 ?k7 ?k8 ?k9 ?kB ?_ ?c2 ?c3 ?c4 ?c5; (case kA => exact rfl); (case kF => exact rfl); (case kK => first | exact rfl | assumption); (case k1 => k_asm); (case k2 => k_asm); (case k3 => k_asm); (case k4 => exact N3); (case k5 => k_asm); (case k6 => k_is); (case k7 => k_is); (case k8 => ktr_room); (case k9 => first | exact BindsTo.of_eq rfl | exact binds_K (by k_in) rfl (by k_is) rfl rfl rfl); (case c5 => decide); (case kB => exact locs rfl); (case c2 => exact rfl); (case c3 => exact rfl); (case c4 => exact rfl); k_whole; intro g' L' h' hg FG' F' N' B' X' T'; (try dsimp only); (try k_lift B'); (try k_fold))
  (rename News _ _ _ _ => N8); dsimp only [tokD] at N8
  k_steps
  all_goals (refine' hret _ _ _ _ _ _ _ ?qp ?q1 ?q2 ?q3 ?q4 ?kF ?kN; (case kF => k_asm); (case kN => refine' cons3 ?k1 ?m0 (back3s hg ?F' N ht hdt hl ?g1 ?g2 ?g3); (case k1 => k_asm); (case m0 => k_mem); (case F' => k_asm); (case g1 => exact (News.get (by k_asm) (by k_mem))); (case g2 => exact (News.get (by k_asm) (by k_mem))); (case g3 => exact (News.get (by k_asm) (by k_mem)))); (case qp => exact pl_end (by assumption) (by assumption) (by assumption) (by assumption) (by omega)); (case q1 => omega); (case q2 => omega); (case q3 => omega); (case q4 => omega))
end


abbrev excO (dd : Option Addr) (t : Addr) : Obj := { cls := .ref 44, dict := dd, data := .fields #[.ref t, .none, .none, .none, .bool false, .none] }
theorem refuse44 (self : Value) : refuseLoop self "__setattr__" [.ref 44, .ref 24, .type "Exception", .type "BaseException", .type "object"] = pure () := by
  rw [refuseLoop_ref, refuseLoop_ref]
  exact PySem.F.store_Exception.passes self
def mro44 (K : Frag) : Bool := match clsIn K 44 with
  | some cd => cd.hasDict && cd.mro == [.ref 44, .ref 24, .type "Exception", .type "BaseException", .type "object"]
  | none => false
theorem mro44_of {K : Frag} (h : mro44 K = true) : ∃ cd, clsIn K 44 = some cd ∧ cd.hasDict = true ∧ cd.mro = [.ref 44, .ref 24, .type "Exception", .type "BaseException", .type "object"] := by
  unfold mro44 at h
  split at h
  · rename_i cd hc
    rw [Bool.and_eq_true] at h
    exact ⟨cd, hc, h.1, beq_iff_eq.mp h.2⟩
  · cases h
section
variable {prog : Program} {w : World} {A : Around} {E : Value → Shared → Prop} {s : Shared} {K : Frag} {x L : Addr} {h₀ : Heap} {m : Str → Option Value} {R : Result → Shared → Prop}
open PyProof.Rows PySem.Calls Builtin Builtin.ObjectAttr
theorem exc_open {ox : Obj} {od : Option Obj} {name : Str} {tk : Tok} {v : Value} (X : K.In s.heap) (I : InstAt s.heap x ox 44 od) (hp : mro44 K = true) (ht : takerIn K 44 name = some none)
    (h : ∀ b, wpAny (model prog w) A.in1 (storeInOwnDict (.ref x) (.ref 44) (.str name tk) name v b)
      (fun fin s' => match fin with | .done f => R (.ok f) s' | .again c' => c'.quiet = true ∧ codeAny (model prog w) A c' R s') (fun e s' => R (.error e) s') s) :
    codeAny (model prog w) A (.call (.builtin "object.__setattr__") ⟨[.ref x, .str name tk, v], []⟩) R s := by
  have SF := PySem.F.store_object
  obtain ⟨cd, hc, hd, ho⟩ := mro44_of hp
  have ne : cd.mro.isEmpty = false := by rw [ho]; rfl
  have sub : Looks (model prog w) s.heap (isInstance (.ref x) (.type "object")) true := I.type.andThen (looks_mroIn X (by unfold mroIn; rw [hc, Option.bind_some, if_neg (by rw [ne]; decide), ho]; decide))
  refine codeAny_call_builtin SF.slot.plain SF.entry (@check_slot (model prog w) _ _ s "object.__setattr__" "object" "__setattr__" (.ref x) [.str name tk, v] [] _ SF.kind SF.split sub (SF.args (.ref x) (.str name tk) v) ?_)
  obtain ⟨attr, ha, hr⟩ := Option.bind_eq_some_iff.mp ht
  have hm : Looks (model prog w) s.heap (mroOf (.ref 44)) cd.mro := (looks_clsIn X hc).andThen .now
  have L3 : Looks (model prog w) s.heap (storeTaker? attr) none := by
    cases attr with
    | none => exact .now
    | some a =>
      obtain ⟨b, hb, e⟩ := Option.map_eq_some_iff.mp hr
      refine (looks_takesIn X hb).andThen ?_
      cases b with
      | false => exact .now
      | true => cases e
  rw [osa_eq, refuse_eq]
  refine wpAny_bind (wpAny_bind (I.type.here (wpAny_bind (hm.here ?_))))
  rw [ho, refuse44]
  refine wpAny_pure (wpAny_bind (I.type.here (wpAny_bind ((looks_findIn X ha).here (wpAny_bind (L3.here ?_))))))
  exact h _

theorem store_tail {dx : Addr} {name : Str} {tk : Tok} {v : Value} {pre post : List (Addr × Obj)} {es es' : List DictEntry} {n n' : Nat} {Q : Fin → Shared → Prop} (F : Fr h₀ L s.heap m) (N : News h₀ L s.heap (pre ++ (dx, dictOf es n) :: post))
    (hl : (getL name es).isSome = true) (h1 : ∀ p ∈ pre, p.1 ≠ dx) (h2 : ∀ p ∈ post, p.1 ≠ dx)
    (e : putL name (PyData.keyHash w.params name) (.str name s.toks) v es = es') (en : putN name es n = n') (hz : es'.length ≤ 1000)
    (h : ∀ h', Fr h₀ L h' m → News h₀ L h' (pre ++ (dx, dictOf es' n') :: post) → Q (.done (.ret .none)) { s with heap := h', toks := s.toks + 1 }) :
    wpAny (model prog w) A (storeInDict dx (.str name tk) name v) Q E s := by
  have e9 : Obj.putName name (PyData.keyHash w.params name) (.str name s.toks) v (dictOf es n) = dictOf es' n' := by rw [putName_dict, e, en]
  obtain ⟨U1, U2⟩ := news_upd (f := Obj.putName name (PyData.keyHash w.params name) (.str name s.toks) v) F N h1 h2 e9 rfl
  have D := (N (dx, dictOf es n) (by simp)).1
  have D' := (U2 (dx, dictOf es' n') (by simp)).1
  unfold storeInDict
  refine wpAny_bind (wpAny_pure (wpAny_bind ?_))
  unfold nsSet
  refine wpAny_bind (wpAny_bind (wpAny_askSetting (wpAny_pure (wpAny_bind (wpAny_mkText (wpAny_bind (wpAny_loadPart D ?_)))))))
  have c : (!(es.toArray).any (·.key.isStr name) && (es.toArray).any (·.refKey)) = false := by
    rw [← Array.any_toList, ← Array.any_toList]
    unfold getL at hl
    split at hl
    · rename_i en' he
      rw [List.any_eq_true.mpr ⟨en', List.mem_of_find?_eq_some he, List.find?_some he⟩]; rfl
    · split at hl
      · cases hl
      · rename_i z; rw [Bool.not_eq_true] at z; rw [z, Bool.and_false]
  dsimp only
  rw [aRefKeyMayBeTheName_at, c]
  refine wpAny_updatePart D ?_
  refine wpAny_bind (wpAny_lookBehind D' (pastItsLine_dict (by rw [List.size_toArray, sizeLine_eq]; omega)) ?_)
  exact wpAny_pure (h _ U1 U2)
theorem exc_store0 {name : Str} {tk : Tok} {v : Value} {t : Addr} (F : Fr h₀ L s.heap m) (N : News h₀ L s.heap [(x, excO none t)]) (X : K.In s.heap) (hp : mro44 K = true) (ht : takerIn K 44 name = some none)
    (h : ∀ h' d, Fr h₀ L h' m → News h₀ L h' [(d, dictOf [⟨PyData.keyHash w.params name, .str name s.toks, v⟩] 1), (x, excO (some d) t)] → x < d → R (.ok (.ret .none)) { s with heap := h', toks := s.toks + 1 }) :
    codeAny (model prog w) A (.call (.builtin "object.__setattr__") ⟨[.ref x, .str name tk, v], []⟩) R s := by
  have hx := (N _ (.head _)).1
  have I : InstAt s.heap x (excO none t) 44 none := ⟨hx, rfl, rfl, trivial⟩
  refine exc_open X I hp ht fun b => ?_
  obtain ⟨cd, hc, hd', _⟩ := mro44_of hp
  unfold storeInOwnDict
  refine wpAny_bind (wpAny_pure (wpAny_bind (wpAny_bind (wpAny_loadPart hx (wpAny_bind ((looks_clsIn X hc).here ?_))))))
  rw [hd']
  have hx₁ : (s.heap.push { cls := .type "dict", data := .dict #[] }).get? x = some (excO none t) := Heap.get?_push_of_some _ hx
  have N1 := N.push F { cls := .type "dict", data := .dict #[] }
  have F1 := F.push { cls := .type "dict", data := .dict #[] }
  have hlt : x < s.heap.objs.size := Heap.lt_size hx
  obtain ⟨F2, N2⟩ := news_upd (d := x) (o := excO none t) (o' := excO (some s.heap.objs.size) t) (f := fun o => { cls := o.cls, dict := some s.heap.objs.size, data := o.data, slots := o.slots })
    (pre := [(s.heap.objs.size, { cls := .type "dict", data := .dict #[] })]) (post := []) F1 N1 (fun p hp => by rw [List.mem_singleton.mp hp]; exact Nat.ne_of_gt hlt) (fun p hp => nomatch hp) rfl rfl
  refine wpAny_bind (wpAny_alloc (wpAny_bind (wpAny_update hx₁ (wpAny_pure ?_))))
  refine store_tail (s := { s with heap := (s.heap.push { cls := .type "dict", data := .dict #[] }).update x fun o => { cls := o.cls, dict := some s.heap.objs.size, data := o.data, slots := o.slots } }) (pre := []) (post := [(x, excO (some s.heap.objs.size) t)]) (es := []) (n := 0) F2 N2 rfl (fun p hp => nomatch hp) (fun p hp => by rw [List.mem_singleton.mp hp]; exact Nat.ne_of_lt hlt) rfl rfl (Nat.le_of_ble_eq_true rfl) fun h' F' N' => ?_
  exact h h' _ F' N' hlt
theorem exc_store1 {name : Str} {tk : Tok} {v : Value} {t d : Addr} {es : List DictEntry} {n : Nat} (F : Fr h₀ L s.heap m) (N : News h₀ L s.heap [(d, dictOf es n), (x, excO (some d) t)]) (X : K.In s.heap) (hp : mro44 K = true) (ht : takerIn K 44 name = some none) (hxd : x < d)
    (hl : (getL name es).isSome = true) (hz : (putL name (PyData.keyHash w.params name) (.str name s.toks) v es).length ≤ 1000)
    (h : ∀ h', Fr h₀ L h' m → News h₀ L h' [(d, dictOf (putL name (PyData.keyHash w.params name) (.str name s.toks) v es) (putN name es n)), (x, excO (some d) t)] → R (.ok (.ret .none)) { s with heap := h', toks := s.toks + 1 }) :
    codeAny (model prog w) A (.call (.builtin "object.__setattr__") ⟨[.ref x, .str name tk, v], []⟩) R s := by
  have hx := (N _ (.tail _ (.head _))).1
  have hdd := (N _ (.head _)).1
  have I : InstAt s.heap x (excO (some d) t) 44 (some (dictOf es n)) := ⟨hx, rfl, rfl, hdd⟩
  refine exc_open X I hp ht fun b => ?_
  obtain ⟨cd, hc, hd', _⟩ := mro44_of hp
  unfold storeInOwnDict
  refine wpAny_bind (wpAny_pure (wpAny_bind (wpAny_bind (wpAny_loadPart hx (wpAny_bind ((looks_clsIn X hc).here ?_))))))
  rw [hd']
  refine wpAny_pure (a := some d) ?_
  exact store_tail (pre := []) (post := [(x, excO (some d) t)]) F N hl (fun p hp => nomatch hp) (fun p hp => by rw [List.mem_singleton.mp hp]; exact Nat.ne_of_lt hxd) rfl rfl hz h
theorem set_exc0 {name : Str} {v : Value} {t : Addr} {Q : Unit → Shared → Prop} (F : Fr h₀ L s.heap m) (X₀ : K.In h₀) (N : News h₀ L s.heap [(x, excO none t)]) (hs : findIn K (.ref 44) "__setattr__" = some (some (.builtin "object.__setattr__"))) (hp : mro44 K = true) (ht : takerIn K 44 name = some none)
    (h : ∀ h' d, Fr h₀ L h' m → News h₀ L h' [(d, dictOf [⟨PyData.keyHash w.params name, .str name (s.toks + 1), v⟩] 1), (x, excO (some d) t)] → x < d → Q () { s with heap := h', toks := s.toks + 2 }) :
    wpAny (model prog w) A (setAttr (.ref x) name v) Q E s :=
  set_plain (od := none) (X₀.keeps F.keep) ⟨(N _ (.head _)).1, rfl, rfl, trivial⟩ hs (exc_store0 (s := { s with toks := s.toks + 1 }) F N (X₀.keeps F.keep) hp ht h)
theorem set_exc1 {name : Str} {v : Value} {t d : Addr} {es : List DictEntry} {n : Nat} {Q : Unit → Shared → Prop} (F : Fr h₀ L s.heap m) (X₀ : K.In h₀) (N : News h₀ L s.heap [(d, dictOf es n), (x, excO (some d) t)]) (hs : findIn K (.ref 44) "__setattr__" = some (some (.builtin "object.__setattr__"))) (hp : mro44 K = true) (ht : takerIn K 44 name = some none) (hxd : x < d)
    (hl : (getL name es).isSome = true) {es' : List DictEntry} {n' : Nat} (e : (putL name (PyData.keyHash w.params name) (.str name (s.toks + 1)) v es, putN name es n) = (es', n')) (hz : es'.length ≤ 1000)
    (h : ∀ h', Fr h₀ L h' m → News h₀ L h' [(d, dictOf es' n'), (x, excO (some d) t)] → Q () { s with heap := h', toks := s.toks + 2 }) :
    wpAny (model prog w) A (setAttr (.ref x) name v) Q E s := by
  obtain ⟨rfl, rfl⟩ := Prod.mk.inj e
  exact set_plain (od := some (dictOf es n)) (X₀.keeps F.keep) ⟨(N _ (.tail _ (.head _))).1, rfl, rfl, (N _ (.head _)).1⟩ hs (exc_store1 (s := { s with toks := s.toks + 1 }) F N (X₀.keeps F.keep) hp ht hxd hl hz h)
end
section
variable {prog : Program} {w : World} {A : Around} {s : Shared} {K : Frag} {L : Addr} {h₀ : Heap} {m : Str → Option Value} {R : Result → Shared → Prop} {news : List (Addr × Obj)}
  {nm q : Str} {C NN : Addr} {bs bm : List Value} {hdct : Bool} {sn : List Str} {sub : List Value} {ab : Bool} {col : Option Bool} {dd : Option Addr} {k0 k1 k2 k3 k5 : Option Value}
open PyProof.Rows PySem.Calls Builtin
theorem exc_type_call {rest : List Value} {fI : Addr} {h : Heap} {g : Array GenState} {d : Drawn} {t : Nat} {os : OsState} {Q : Fin → Shared → Prop} {E : Value → Shared → Prop} (X : K.In h)
    (hC : h.get? C = some (excClassObj nm q C NN bs bm hdct sn sub ab col dd k0 k1 k2 k3 k5 "Exception.__new__")) (ht : tailIn K [.type "Exception", .type "BaseException", .type "object"] bm = true)
    (hi : findIn K (.ref C) "__init__" = some (some (.ref fI))) (hf : typeIn K (.ref fI) = some (.type "function"))
    (hq : codeAny (model prog w) A (.call (.ref fI) ⟨.ref (h.objs.size + 1) :: rest, []⟩) (InitBack (h.objs.size + 1) fun r s' => match r with | .ok f => Q (.done f) s' | .error e => E e s')
      ⟨(h.push { cls := .type "tuple", data := .seq rest.toArray }).push { cls := .ref C, data := .fields #[.ref h.objs.size, .none, .none, .none, .bool false, .none] }, g, d, t, os⟩) (hrest : rest.length ≤ sizeLine := by size_fits) :
    wpAny (model prog w) A (Builtin.«type.__call__» ⟨.ref C :: rest, []⟩) Q E ⟨h, g, d, t, os⟩ := by
  have F := PySem.F.excBase_Exception
  have T := tail_of_in X ht
  repeat (first | with_reducible refine wpAny_loadPart_at hC ?_ | with_reducible refine wpAny_madeBy_exc hC ?_ | wp_step)
  refine codeAny_call_builtin_code (Code.quiet_builtin _ F.quiet) (wpAny_check_new_subT F T hC ?_)
  refine codeAny_exc_new_subT F T hC ?_ hrest
  show wpAny _ _ _ _ _ _
  have hC₁ := Heap.get?_push_of_some { cls := .ref C, data := .fields #[.ref h.objs.size, .none, .none, .none, .bool false, .none] }
    (Heap.get?_push_of_some { cls := .type "tuple", data := .seq rest.toArray } hC)
  have hget : ((h.push { cls := .type "tuple", data := .seq rest.toArray }).push
      { cls := .ref C, data := .fields #[.ref h.objs.size, .none, .none, .none, .bool false, .none] }).get? (h.objs.size + 1) = some
      { cls := .ref C, data := .fields #[.ref h.objs.size, .none, .none, .none, .bool false, .none] } := by heap_get
  have hcC : (Value.ref C :: bm).contains (.ref C) = true := by simp
  have X₁ : K.In ((h.push { cls := .type "tuple", data := .seq rest.toArray }).push { cls := .ref C, data := .fields #[.ref h.objs.size, .none, .none, .none, .bool false, .none] }) :=
    fun b o e => Heap.get?_push_of_some _ (Heap.get?_push_of_some _ (X b o e))
  unfold isInstance
  repeat (first | with_reducible refine wpAny_loadPart_at hget ?_ | (with_reducible refine wpAny_isSubtype_exc hC₁ ?_; rw [hcC]) | wp_step)
  show wpAny _ _ (typeLookup (.ref C) _) _ _ _
  refine (looks_findIn X₁ hi).here ?_
  refine wpAny_holding (wpAny_bind ((bind_fn X₁ _ hf).here ?_))
  refine wpAny_bind (wpAny_call (codeAny_mono hq fun r s' z => ?_))
  rcases r with e | (v | _ | _ | _) <;> first | exact z | exact z.elim | skip
  obtain ⟨rfl, z⟩ := z
  exact wpAny_pure (wpAny_pure z)

theorem make_exc {rest : List Value} {fI : Addr} (F : Fr h₀ L s.heap m) (N : News h₀ L s.heap news) (X : K.In s.heap)
    (hl : K.lookup 44 = some (excClassObj nm q 44 NN bs bm hdct sn sub ab col dd k0 k1 k2 k3 k5 "Exception.__new__")) (ht : tailIn K [.type "Exception", .type "BaseException", .type "object"] bm = true)
    (hi : findIn K (.ref 44) "__init__" = some (some (.ref fI))) (hf : typeIn K (.ref fI) = some (.type "function"))
    (h : ∀ e t h', Fr h₀ L h' m → News h₀ L h' ((e, excO none t) :: news) → s.heap.get? e = none →
      codeAny (model prog w) (A.under (.builtin "type.__call__" ⟨.ref 44 :: rest, []⟩)) (.call (.ref fI) ⟨.ref e :: rest, []⟩) (InitBack e R) { s with heap := h' }) (hrest : rest.length ≤ sizeLine := by size_fits) :
    codeAny (model prog w) A (.call (.ref 44) ⟨rest, []⟩) R s := by
  obtain ⟨hh, g, d, t, os⟩ := s
  have hC := X _ _ hl
  have f1 := tc_lookup
  have f2 := tc_bind (.ref 44)
  have hT : (⟨hh, g, d, t, os⟩ : Shared).TypeIs (.ref 44) "type" := ⟨_, hC, rfl⟩
  refine codeAny_of_tree ?_
  show wpAny _ _ (callAny (.ref 44) _) _ _ _
  repeat (any_goals (first | assumption | with_reducible refine wpAny_loadPart_at hC ?_ | wp_step))
  refine ⟨rfl, ?_⟩
  refine codeAny_call_builtin_at (Code.quiet_builtin _ (by decide +kernel)) entry_typeCall (wpAny_check_type_call_sub hC (exc_type_call (hrest := hrest) X hC ht hi hf ?_))
  have N' := (N.push F { cls := .type "tuple", data := .seq rest.toArray }).push (F.push _) { cls := .ref 44, data := .fields #[.ref hh.objs.size, .none, .none, .none, .bool false, .none] }
  rw [Heap.size_push] at N'
  refine h _ hh.objs.size _ ((F.push _).push _) (fun p hp => N' p ?_) (Heap.get?_none_of_le (Nat.le_succ _))
  rcases List.mem_cons.mp hp with rfl | hp
  · exact .head _
  · exact .tail _ (.tail _ hp)
end
section
variable {w : World} {mean : ExcName → Option Value} {mg mb : Str → Option Value} {news : List (Addr × Obj)}
abbrev ExcBack (news : List (Addr × Obj)) (h₀ : Heap) (L : Addr) (m : Str → Option Value) (s : Shared) (Q : Value → Shared → Prop) : Prop :=
  ∀ (e : Addr) (dd : Option Addr) (tt : Addr) (h' : Heap) (tk' : Nat), Fr h₀ L h' m → News h₀ L h' ((e, excO dd tt) :: news) → Q (.ref e) { s with heap := h', toks := tk' }
theorem exc_back {h₀ g h1 h' : Heap} {L L' e : Addr} {oe oe' : Obj} {m' : Str → Option Value} {h : Heap} (hg : Rest h1 [e] g) (F' : Fr g L' h' m') (N : News h₀ L h news) (N1 : News h₀ L h1 ((e, oe) :: news)) (he : h.get? e = none) (h2 : h'.get? e = some oe') : News h₀ L h' ((e, oe') :: news) := fun p hp => by
  rcases List.mem_cons.mp hp with rfl | hp
  · exact ⟨h2, (N1 (e, oe) (.head _)).2⟩
  · have z := N1 p (.tail _ hp)
    exact ⟨F'.keep _ _ (hg _ _ z.1 (fun q => by have := (N p hp).1; rw [List.mem_singleton.mp q, he] at this; cases this)), z.2⟩
end
local macro_rules | `(tactic| walk_at "setAttr ref") => `(tactic| (k_here; k_dflt (first | (refine' set_exc0 ?k1 ?k2 ?k3 ?k4 ?k5 ?k6 ?_; (case k1 => k_asm); (case k2 => k_asm); (case k3 => k_asm); (case k4 => k_is); (case k5 => kernel_rfl); (case k6 => k_is); intro h9 d9 F9 N9 l9; (try k_lt2 l9); (try k_sweep)) | (refine' set_exc1 ?k1 ?k2 ?k3 ?k4 ?k5 ?k6 ?k7 ?k8 ?k9 ?k10 ?_; (case k1 => k_asm); (case k2 => k_asm); (case k3 => k_asm); (case k4 => k_is); (case k5 => kernel_rfl); (case k6 => k_is); (case k7 => omega); (case k8 => rfl); (case k9 => k_put); (case k10 => exact Nat.le_of_ble_eq_true rfl); intro h9 F9 N9; (try k_sweep)))))
section
variable {w : World} {mean : ExcName → Option Value} {mg mb : Str → Option Value} {news : List (Addr × Obj)}
theorem c_SyntaxFault (v1 v2 v3 v4 : Value) : Claim w mean mg mb 12 news 44 [v1, v2, v3, v4] (ExcBack news) := by
  (unfold Claim; k_fill; w_top off)
  intro dp un gd cn cs a ccd cl outer A₀ base h₀ L m s Q E B F X N T hk hd hu hret
  k_with_none
  refine wpAny_call ?_
  have X1 := X.keeps F.keep
  k_dflt (refine' make_exc F N X1 ?h1 ?h2 ?h3 ?h4 ?_; (case h1 => k_is); (case h2 => kernel_rfl); (case h3 => k_is); (case h4 => k_is))
  intro e tt h1 F1 N1 he
  have N3 : News h₀ L h1 [(e, excO none tt)] := cb_drop N1 (by simp only [List.forall_mem_cons, List.not_mem_nil, false_implies, implies_true, and_true]; exact .head _)
  k_dflt (refine' enter3 (s := { s with heap := h1 }) ?k1 ?k2 ?k3 ?k4 ?k5 ?kA ?kF ?kK ?k6 ?k7 ?k8 ?k9 ?kB ?_ ?c2 ?c3 ?c4 ?c5; (case kA => exact rfl); (case kF => exact rfl); (case kK => first | exact rfl | assumption); (case k1 => k_asm); (case k2 => exact F1); (case k3 => k_asm); (case k4 => exact N3); (case k5 => k_asm); (case k6 => k_is); (case k7 => k_is); (case k8 => ktr_room); (case k9 => first | exact BindsTo.of_eq rfl | exact binds_K (by k_in) rfl (by k_is) rfl rfl rfl); (case c5 => decide); (case kB => exact locs rfl); (case c2 => exact rfl); (case c3 => exact rfl); (case c4 => exact rfl); k_whole; intro g' L' h' hg FG' F' N' B' X' T'; (try dsimp only); (try k_lift B'); (try k_fold))
  k_steps
  all_goals (refine' hret _ _ _ _ _ ?a ?b; (case a => k_asm); (case b => refine' exc_back hg ?F' N N1 he ?h2; (case F' => k_asm); (case h2 => exact News.get (by k_asm) (by k_mem))))
end


section
variable {w : World} {mean : ExcName → Option Value} {mg mb : Str → Option Value} {news : List (Addr × Obj)} {news' : Tok → List (Addr × Obj)} {t d l : Addr} {its : List Value} {n : Nat} {codes : List Int} {at1 o : Int} {k1 k2 k3 ta to' : Tok}
theorem c_fault {at9 : Int} (hC : Good codes) (hI : IntsAre its codes) (ht : (t, instObj 258 d) ∈ news) (hdt : (d, tokD w l at1 o k1 k2 k3 ta to') ∈ news) (hl : (l, listOf its.toArray n) ∈ news) (o1 : t ≠ d) (o2 : l ≠ d) (kd : Str) (tk0 tk1 : Tok) (h9 : 0 ≤ at9) :
    Claim w mean mg mb 22 news 157 [.ref t, .str kd tk0, .int at9 tk1] (ExcBack news) := by
  (unfold Claim; k_fill; w_top off)
  intro dp un gd cn cs a ccd cl outer A₀ base h₀ L m s Q E B F X N T hk hd hu hret
  k_with_none
  k_with "call ref" => (k_here; (with_reducible show wpAny _ _ (call (Value.ref 150) _) _ _ _); k_dflt (refine' c_place ?hC ?hI ?ht ?hdt ?hl ?o1 ?o2 _ ?h9 _ _ _ _ _ _ _ _ _ _ _ _ _ _ _ _ _ ?k1 ?k2 ?k3 ?k4 ?k5 ?k6 ?k7 ?k8 ?_; (case k4 => k_asm); (case k1 => k_asm); (case k2 => k_asm); (case k3 => k_asm); (case k5 => k_asm); (case k6 => first | exact rfl | assumption); (case k7 => ktr_room); (case k8 => ktr_units); (case hC => assumption); (case hI => assumption); (case ht => k_mem); (case hdt => k_mem); (case hl => k_mem); (case o1 => k_ne); (case o2 => k_ne); (case h9 => omega)); intro _ _ _ _ _ _ _ _ _ _ _ _ _ _; (try dsimp only); (try k_sweep))
  k_with "call ref" => (k_here; (with_reducible show wpAny _ _ (call (Value.ref 44) _) _ _ _); k_dflt (refine' c_SyntaxFault _ _ _ _ _ _ _ _ _ _ _ _ _ _ _ _ _ _ _ _ _ ?k1 ?k2 ?k3 ?k4 ?k5 ?k6 ?k7 ?k8 ?_; (case k4 => k_asm); (case k1 => k_asm); (case k2 => k_asm); (case k3 => k_asm); (case k5 => k_asm); (case k6 => first | exact rfl | assumption); (case k7 => ktr_room); (case k8 => ktr_units); skip); intro _ _ _ _ _ _ _; (try dsimp only); (try k_sweep))
  have N3 : News h₀ L s.heap [(t, instObj 258 d), (d, tokD w l at1 o k1 k2 k3 ta to'), (l, listOf its.toArray n)] := cb_drop N (by simp only [List.forall_mem_cons, List.not_mem_nil, false_implies, implies_true, and_true]; exact ⟨ht, hdt, hl⟩)
  have hz := hC.size
  have o1' := neN o1
  have o2' := neN o2
  refine wpAny_call ?_
  k_dflt (refine' enter3 ?k1 ?k2 ?k3 ?k4 ?k5 ?kA ?kF ?kK ?k6 ?k7 ?k8 ?k9 ?kB ?_ ?c2 ?c3 ?c4 ?c5; (case kA => exact rfl); (case kF => exact rfl); (case kK => first | exact rfl | assumption); (case k1 => k_asm); (case k2 => k_asm); (case k3 => k_asm); (case k4 => exact N3); (case k5 => k_asm); (case k6 => k_is); (case k7 => k_is); (case k8 => ktr_room); (case k9 => first | exact BindsTo.of_eq rfl | exact binds_K (by k_in) rfl (by k_is) rfl rfl rfl); (case c5 => decide); (case kB => exact locs rfl); (case c2 => exact rfl); (case c3 => exact rfl); (case c4 => exact rfl); k_whole; intro g' L' h' hg FG' F' N' B' X' T'; (try dsimp only); (try k_lift B'); (try k_fold))
  (rename News _ _ _ _ => N8); dsimp only [tokD] at N8
  k_steps
  all_goals (refine' hret _ _ _ _ _ ?kF ?kN; (case kF => k_asm); (case kN => refine' cons3 ?k1 ?m0 (back3s hg ?F' N ht hdt hl ?g1 ?g2 ?g3); (case k1 => k_asm); (case m0 => k_mem); (case F' => k_asm); (case g1 => exact (News.get (by k_asm) (by k_mem))); (case g2 => exact (News.get (by k_asm) (by k_mem))); (case g3 => exact (News.get (by k_asm) (by k_mem)))))
end


theorem raiseStmt_made {M : Model} {A : Around} {E : Value → Shared → Prop} {env : Env} {nm q : Str} {C N : Addr} {bs bm : List Value} {hdct : Bool} {sn : List Str} {sub : List Value} {ab : Bool} {col : Option Bool} {dd : Option Addr} {k0 k1 k2 k3 k5 : Option Value} {newId : String} {s : Shared} {x : Sem Value} {Q : Flow → Shared → Prop} (hbase : bm.contains (.type "BaseException") = true) (hh : A.handled = none)
    (h : wpAny M A x (fun v s₁ => ∃ e t d9, v = .ref e ∧ s₁.heap.get? C = some (excClassObj nm q C N bs bm hdct sn sub ab col dd k0 k1 k2 k3 k5 newId) ∧
      s₁.heap.get? e = some { cls := .ref C, dict := d9, data := .fields #[.ref t, .none, .none, .none, .bool false, .none] } ∧ E (.ref e) s₁) E s) :
    wpAny M A (raiseStmt env (some x) none) Q E s := by
  have hcB : (Value.ref C :: bm).contains (.type "BaseException") = true := by rw [List.contains_cons, hbase, Bool.or_true]
  unfold raiseStmt
  refine wpAny_bind (wpAny_mono h (fun v s₁ h₁ => ?_) fun _ _ x => x)
  obtain ⟨e, t, d9, rfl, hC, he, hE⟩ := h₁
  obtain ⟨hp, g, d, tk, os⟩ := s₁
  repeat (first | with_reducible refine wpAny_loadPart_at he ?_ | with_reducible refine wpAny_loadPart_at hC ?_ | (with_reducible refine wpAny_isSubtype_exc hC ?_; rw [hcB]) | wp_step)
  exact wpAny_raiseNew_none hh hE
theorem raise_exc {M : Model} {A : Around} {E : Value → Shared → Prop} {env : Env} {K : Frag} {nm q : Str} {NN : Addr} {bs bm : List Value} {hdct : Bool} {sn : List Str} {sub : List Value} {ab : Bool} {col : Option Bool} {dd : Option Addr} {k0 k1 k2 k3 k5 : Option Value} {newId : String} {s : Shared} {x : Expr} {pos : Pos} {Q : Flow → Shared → Prop} {h₀ : Heap} (_X₀ : K.In h₀)
    (hl : K.lookup 44 = some (excClassObj nm q 44 NN bs bm hdct sn sub ab col dd k0 k1 k2 k3 k5 newId)) (hbase : bm.contains (.type "BaseException") = true) (hh : A.handled = none)
    (h : wpAny M A (eval x env) (fun v s₁ => ∃ e d9 t, v = .ref e ∧ K.In s₁.heap ∧ s₁.heap.get? e = some (excO d9 t) ∧ E (.ref e) s₁) E s) :
    wpAny M A (exec (.Raise (some x) none pos) env) Q E s := by
  rw [PySem.arm_exec_Raise]
  refine wpAny_bind (wpAny_standAt (raiseStmt_made (C := 44) (nm := nm) (q := q) (N := NN) (bs := bs) (bm := bm) (hdct := hdct) (sn := sn) (sub := sub) (ab := ab) (col := col) (dd := dd) (k0 := k0) (k1 := k1) (k2 := k2) (k3 := k3) (k5 := k5) (newId := newId) hbase hh (wpAny_bind (wpAny_mono h (fun v s₁ h₁ => wpAny_bind (wpAny_standAt (wpAny_pure ?_))) fun _ _ x => x))))
  obtain ⟨e, d9, t, rfl, X, he, hE⟩ := h₁
  exact ⟨e, t, d9, rfl, X _ _ hl, he, hE⟩
def Thrown (l : List Env) (g : Heap) (d : Addr) (od : Obj) (e : Addr) (h' : Heap) : Prop :=
  ∃ B a0, Heap.FlyingW B l e (.ref 44) a0 h' ∧ (∀ b o, g.get? b = some o → b ≠ d → b ∉ l.filterMap (·.frame) → B.get? b = some o) ∧ B.get? d = some od ∧ (∀ b o, g.get? b = some o → b ≠ d → (∀ vs, o.data ≠ .fields vs) → ∃ sl, h'.get? b = some { o with slots := sl })
section
variable {M : Model} {A : Around} {E : Value → Shared → Prop} {base g h₀ h : Heap} {l : List Env} {L L' a e t d lx : Addr} {m' : Str → Option Value} {name : Str} {scope : Scope} {cd : Value} {Q : Unit → Shared → Prop} {nn news : List (Addr × Obj)} {s' : Shared} {dd : Option Addr} {tt : Addr} {ot od0 od ol : Obj}
theorem frame_not {b : Addr} {o : Obj} (K : Below A base l g) (hg : g.get? b = none) : b ∉ l.filterMap (·.frame) := fun hm => by
  obtain ⟨_, o, ho, _⟩ := K.frames.mem hm
  rw [hg] at ho; cases ho
theorem leave_first (K : Below A base l g) (F' : Fr g L' s'.heap m') (kN : News g L' s'.heap nn) (hg : Rest h [t, d, lx] g) (F : Fr h₀ L h m) (N : News h₀ L h news) (ht : (t, ot) ∈ news) (hl : (lx, ol) ∈ news)
    (he : (e, excO dd tt) ∈ nn) (h1 : (t, ot) ∈ nn) (h2 : (d, od) ∈ nn) (h3 : (lx, ol) ∈ nn) (c1 : ot.cls ≠ .ref 44) (c2 : od.cls ≠ .ref 44) (c3 : ol.cls ≠ .ref 44)
    (hQ : ∀ h', Thrown l h d od e h' → Q () { s' with heap := h' }) (hk : scope.kind = .function := by rfl) :
    wpAny M (A.deeper (envOf name scope L' a cd)) (leaving (envOf name scope L' a cd) (.ref e)) Q E s' := by
  have K' := K.push (name := name) (a := a) (cd := cd) F' hk
  have hin : ∀ env ∈ (envOf name scope L' a cd :: l), ∀ b, env.frame = some b → b ∈ e :: (envOf name scope L' a cd :: l).filterMap (·.frame) := fun env he b hb => .tail _ (List.mem_filterMap.mpr ⟨env, he, hb⟩)
  have gL : g.get? L' = none := kts_self F'
  have hide : ∀ b o, s'.heap.get? b = some o → b ≠ e → b ≠ L' → b ∉ l.filterMap (·.frame) → (hideAll s'.heap (e :: (envOf name scope L' a cd :: l).filterMap (·.frame))).get? b = some o := fun b o hb q1 q2 q3 => hideAll_get _ hb fun hm => by
    rcases List.mem_cons.mp hm with z | z
    · exact q1 z
    · rcases kts_mem z with z | z
      · exact q2 z
      · exact q3 z
  have ne : ∀ b o, (b, o) ∈ nn → o.cls ≠ .ref 44 → b ≠ e := fun b o hb hc q => by
    have z := (kN _ hb).1
    have y := (kN _ he).1
    rw [q] at z
    have this : o = excO dd tt := Option.some.inj (z.symm.trans y)
    exact hc (by rw [this])
  refine wpAny_leaving_firstW (base := hideAll s'.heap (e :: (envOf name scope L' a cd :: l).filterMap (·.frame))) (Around.frames_deeper K.stack) (funFrames_hide K'.frames hin) rfl (kN _ he).1 (fun b o q => of_hideAll _ q) (hideAll_none _ (.head _)) rfl rfl rfl fun h' hL => ?_
  obtain ⟨y1, ⟨_, _, y2⟩, y3, y4⟩ := hL
  have come : ∀ b o, h.get? b = some o → b ≠ d → s'.heap.get? b = some o := fun b o hb hbd => by
    by_cases q1 : b = t
    · subst q1
      have : o = ot := Option.some.inj (hb.symm.trans (N _ ht).1)
      subst this
      exact (kN _ h1).1
    by_cases q2 : b = lx
    · subst q2
      have : o = ol := Option.some.inj (hb.symm.trans (N _ hl).1)
      subst this
      exact (kN _ h3).1
    exact F'.keep _ _ (hg b o hb (by simp only [List.mem_cons, List.not_mem_nil, or_false, not_or]; exact ⟨q1, hbd, q2⟩))
  refine hQ h' ⟨_, _, ⟨y1, hideAll_none _ (.head _), y2, y3⟩, fun b o hb hbd hbf => ?_, hide d od (kN _ h2).1 (ne d od h2 c2) (kN _ h2).2.1 (frame_not (o := od) K (kN _ h2).2.2), fun b o hb hbd hnf => y4 b o (come b o hb hbd) hnf⟩
  by_cases q1 : b = t
  · subst q1
    have : o = ot := Option.some.inj (hb.symm.trans (N _ ht).1)
    subst this
    exact hide _ _ (kN _ h1).1 (ne _ _ h1 c1) (kN _ h1).2.1 hbf
  by_cases q2 : b = lx
  · subst q2
    have : o = ol := Option.some.inj (hb.symm.trans (N _ hl).1)
    subst this
    exact hide _ _ (kN _ h3).1 (ne _ _ h3 c3) (kN _ h3).2.1 hbf
  have gb := hg b o hb (by simp only [List.mem_cons, List.not_mem_nil, or_false, not_or]; exact ⟨q1, hbd, q2⟩)
  exact hide _ _ (F'.keep _ _ gb) (fun q => by have := (kN _ he).2.2; rw [← q, gb] at this; cases this) (fun q => by rw [q, gL] at gb; cases gb) hbf
theorem leave_on {h₁ : Heap} (K : Below A base l g) (F' : Fr g L' h₁ m') (kN : News g L' h₁ nn) (hg : Rest h [t, d, lx] g) (F : Fr h₀ L h m) (N : News h₀ L h news) (ht : (t, ot) ∈ news) (hl : (lx, ol) ∈ news) (o1 : t ≠ d) (o2 : lx ≠ d)
    (h1 : (t, ot) ∈ nn) (h3 : (lx, ol) ∈ nn) (hT : Thrown (envOf name scope L' a cd :: l) h₁ d od e s'.heap)
    (hQ : ∀ h', Thrown l h d od e h' → Q () { s' with heap := h' }) :
    wpAny M (A.deeper (envOf name scope L' a cd)) (leaving (envOf name scope L' a cd) (.ref e)) Q E s' := by
  obtain ⟨B, a0, hfl, hk, hd, hup⟩ := hT
  have gL : g.get? L' = none := kts_self F'
  have pass : ∀ b o, h₁.get? b = some o → b ≠ d → b ≠ L' → b ∉ l.filterMap (·.frame) → B.get? b = some o := fun b o hb q1 q2 q3 => hk b o hb q1 fun hm => by
    rcases kts_mem hm with z | z
    · exact q2 z
    · exact q3 z
  have come : ∀ b o, h.get? b = some o → b ≠ d → h₁.get? b = some o := fun b o hb hbd => by
    by_cases q1 : b = t
    · subst q1
      have : o = ot := Option.some.inj (hb.symm.trans (N _ ht).1)
      subst this
      exact (kN _ h1).1
    by_cases q2 : b = lx
    · subst q2
      have : o = ol := Option.some.inj (hb.symm.trans (N _ hl).1)
      subst this
      exact (kN _ h3).1
    exact F'.keep _ _ (hg b o hb (by simp only [List.mem_cons, List.not_mem_nil, or_false, not_or]; exact ⟨q1, hbd, q2⟩))
  refine wpAny_leaves_onW (Around.frames_deeper K.stack) rfl hfl fun h' x1 x2 => hQ h' ⟨B, a0, x1, fun b o hb hbd hbf => ?_, hd, fun b o hb hbd hnf => by
    obtain ⟨sl, hs⟩ := hup b o (come b o hb hbd) hbd hnf
    obtain ⟨sl', hs'⟩ := x2 b _ hs hnf
    exact ⟨sl', hs'⟩⟩
  by_cases q1 : b = t
  · subst q1
    have : o = ot := Option.some.inj (hb.symm.trans (N _ ht).1)
    subst this
    exact pass _ _ (kN _ h1).1 hbd (kN _ h1).2.1 hbf
  by_cases q2 : b = lx
  · subst q2
    have : o = ol := Option.some.inj (hb.symm.trans (N _ hl).1)
    subst this
    exact pass _ _ (kN _ h3).1 hbd (kN _ h3).2.1 hbf
  have gb := hg b o hb (by simp only [List.mem_cons, List.not_mem_nil, or_false, not_or]; exact ⟨q1, hbd, q2⟩)
  exact pass _ _ (F'.keep _ _ gb) hbd (fun q => by rw [q, gL] at gb; cases gb) hbf
end

local macro_rules | `(tactic| walk_at "exec Raise some none") => `(tactic| (k_here; k_dflt (refine' raise_exc ?kX ?k1 ?k2 ?k3 ?_; (case kX => k_asm); (case k1 => k_is); (case k2 => decide); (case k3 => exact rfl))))
local macro_rules | `(tactic| walk_at "Exists") => `(tactic| ((with_reducible show ∃ e d9 t, Value.ref _ = Value.ref e ∧ _); refine ⟨_, _, _, rfl, by k_in, News.get (by k_asm) (by k_mem), ?_⟩))


def abL : Bool → List Int → Option Nat
  | _, [] => none
  | true, _ :: r => (abL false r).map (· + 1)
  | false, c :: r => if c = 10 then none else if c = 92 then (abL true r).map (· + 1) else if c = 39 then (if hdC r = 39 then none else some 1) else (abL false r).map (· + 1)
abbrev abLen (r : List Int) : Option Nat := abL false r
theorem abLen_cons (c : Int) (r : List Int) : abLen (c :: r) = if c = 10 then none else if c = 92 then (abL true r).map (· + 1) else if c = 39 then (if hdC r = 39 then none else some 1) else (abL false r).map (· + 1) := rfl
def AbInv (codes : List Int) (T a : Int) : Prop := ∃ k : Nat, abLen (codes.drop a.toNat) = some k ∧ a + k = T
theorem ab_cons {codes : List Int} {T a : Int} (h : AbInv codes T a) : ∃ c r k, codes.drop a.toNat = c :: r ∧ abLen (c :: r) = some k ∧ a + (k : Nat) = T := by
  obtain ⟨k, hk, e⟩ := h
  cases q : codes.drop a.toNat with
  | nil => rw [q] at hk; cases hk
  | cons c r => exact ⟨c, r, k, rfl, q ▸ hk, e⟩
theorem ab_here {codes : List Int} {T a : Int} (hC : Good codes) (h : AbInv codes T a) (h0 : 0 ≤ a) : 0 ≤ codeAt codes a ∧ codeAt codes a ≠ 10 := by
  obtain ⟨c, r, k, q, hk, _⟩ := ab_cons h
  have e : codeAt codes a = c := by unfold codeAt; rw [q]; rfl
  have hm : c ∈ codes := List.mem_of_mem_drop (q ▸ List.mem_cons_self)
  have := hC.low c hm
  refine ⟨by omega, fun h10 => ?_⟩
  rw [abLen_cons, if_pos (by omega)] at hk; cases hk
theorem ab_esc {codes : List Int} {T a : Int} (hC : Good codes) (h0 : 0 ≤ a) (h : AbInv codes T a) (h1 : codeAt codes a = 92) : 0 ≤ a + 2 ∧ 0 ≤ codeAt codes (a + 2) ∧ codeAt codes (a + 2) ≠ 10 ∧ AbInv codes T (a + 2) := by
  have z : AbInv codes T (a + 2) := by
    obtain ⟨c, r, k, q, hk, e⟩ := ab_cons h
    have ec : codeAt codes a = c := by unfold codeAt; rw [q]; rfl
    unfold AbInv
    rw [show codes.drop (a + 2).toNat = (codes.drop a.toNat).drop 2 from drop_add h0 2, q]
    rw [abLen_cons, if_neg (by omega), if_pos (by omega)] at hk
    obtain ⟨k1, hk1, ek1⟩ := Option.map_eq_some_iff.mp hk
    cases r with
    | nil => cases hk1
    | cons x r' =>
      obtain ⟨k', hk', ek⟩ := Option.map_eq_some_iff.mp (show (abL false r').map (· + 1) = some k1 from hk1)
      exact ⟨k', hk', by omega⟩
  have y := ab_here hC z (by omega)
  exact ⟨by omega, y.1, y.2, z⟩
theorem ab_go {codes : List Int} {T a : Int} (hC : Good codes) (h0 : 0 ≤ a) (h : AbInv codes T a) (h1 : codeAt codes a ≠ 92) (h2 : codeAt codes a ≠ 39) : 0 ≤ a + 1 ∧ 0 ≤ codeAt codes (a + 1) ∧ codeAt codes (a + 1) ≠ 10 ∧ AbInv codes T (a + 1) := by
  have z : AbInv codes T (a + 1) := by
    obtain ⟨c, r, k, q, hk, e⟩ := ab_cons h
    have ec : codeAt codes a = c := by unfold codeAt; rw [q]; rfl
    have h10 := (ab_here hC h h0).2
    unfold AbInv
    rw [drop_one' h0, q]
    rw [abLen_cons, if_neg (by omega), if_neg (by omega), if_neg (by omega)] at hk
    obtain ⟨k', hk', ek⟩ := Option.map_eq_some_iff.mp hk
    exact ⟨k', hk', by omega⟩
  have y := ab_here hC z (by omega)
  exact ⟨by omega, y.1, y.2, z⟩
theorem ab_twice {codes : List Int} {T a : Int} (h : AbInv codes T a) (h0 : 0 ≤ a) (h1 : codeAt codes a = 39) (h2 : codeAt codes (a + 1) = 39) : False := by
  obtain ⟨c, r, k, q, hk, e⟩ := ab_cons h
  have ec : codeAt codes a = c := by unfold codeAt; rw [q]; rfl
  unfold codeAt at h2
  rw [drop_one' h0, q] at h2
  have h2' : hdC r = 39 := h2
  rw [abLen_cons, if_neg (by omega), if_neg (by omega), if_pos (by omega), if_pos h2'] at hk
  cases hk
theorem ab_stop {codes : List Int} {T a : Int} (h0 : 0 ≤ a) (h : AbInv codes T a) (h1 : codeAt codes a = 39) (h2 : codeAt codes (a + 1) ≠ 39) : a + 1 = T := by
  obtain ⟨c, r, k, q, hk, e⟩ := ab_cons h
  have ec : codeAt codes a = c := by unfold codeAt; rw [q]; rfl
  unfold codeAt at h2
  rw [drop_one' h0, q] at h2
  have h2' : ¬ hdC r = 39 := h2
  rw [abLen_cons, if_neg (by omega), if_neg (by omega), if_pos (by omega), if_neg h2'] at hk
  cases hk; omega
theorem ab_no {codes : List Int} {a : Int} (hC : Good codes) (h1 : codeAt codes a = 92) (h0 : 0 ≤ a) (h2 : codeAt codes (a + 1) = -1) : False := by
  have := esc_at hC h0 h1
  omega
theorem ab_less {codes : List Int} {a b : Int} (h0 : 0 ≤ a) (h : 0 ≤ codeAt codes a) (hb : a < b) : codes.length - b.toNat < codes.length - a.toNat := lay_less h0 h hb
section
variable {w : World} {mean : ExcName → Option Value} {mg mb : Str → Option Value} {news : List (Addr × Obj)} {news' : Tok → List (Addr × Obj)} {t d l : Addr} {its : List Value} {n : Nat} {codes : List Int} {at1 o : Int} {k1 k2 k3 ta to' : Tok}
theorem c_abandon {T9 : Int} (hC : Good codes) (hI : IntsAre its codes) (ht : (t, instObj 258 d) ∈ news) (hdt : (d, tokD w l at1 o k1 k2 k3 ta to') ∈ news) (hl : (l, listOf its.toArray n) ∈ news) (h0 : 0 ≤ at1) (o1 : t ≠ d) (o2 : l ≠ d) (tk1 : Tok) (hab : AbInv codes T9 at1) :
    Claim w mean mg mb 14 news 255 [.ref t, .int 39 tk1] (Moves w (fun v => v = .none) T9 t d l its n at1 o k1 k2 k3 ta to' news news') := by
  (unfold Claim; k_fill; w_top off)
  intro dp un gd cn cs a ccd cl outer A₀ base h₀ L m s Q E B F X N T hk hd hu ⟨hU, hret⟩
  have hH := ab_here hC hab h0
  k_with_none
  k_with "call ref" => (k_here; (with_reducible show wpAny _ _ (call (Value.ref 143) _) _ _ _); k_dflt (refine' c_code_at ?hC ?hI ?ht ?hdt ?hl _ _ ?hi _ _ _ _ _ _ _ _ _ _ _ _ _ _ _ _ _ ?k1 ?k2 ?k3 ?k4 ?k5 ?k6 ?k7 ?k8 ?_; (case k4 => k_asm); (case k1 => k_asm); (case k2 => k_asm); (case k3 => k_asm); (case k5 => k_asm); (case k6 => first | exact rfl | assumption); (case k7 => ktr_room); (case k8 => ktr_units); (case hC => assumption); (case hI => assumption); (case ht => k_mem); (case hdt => k_mem); (case hl => k_mem); (case hi => omega)); intro _ _ _ _ _; (try dsimp only); (try k_sweep))
  k_with "call ref" => (k_here; (with_reducible show wpAny _ _ (call (Value.ref 143) _) _ _ _); k_dflt (refine' c_code_at_v ?hv ?hC ?hI ?ht ?hdt ?hl _ ?hi _ _ _ _ _ _ _ _ _ _ _ _ _ _ _ _ _ ?k1 ?k2 ?k3 ?k4 ?k5 ?k6 ?k7 ?k8 ?_; (case k4 => k_asm); (case k1 => k_asm); (case k2 => k_asm); (case k3 => k_asm); (case k5 => k_asm); (case k6 => first | exact rfl | assumption); (case k7 => ktr_room); (case k8 => ktr_units); (case hC => assumption); (case hv => with_reducible assumption); (case hI => assumption); (case ht => k_mem); (case hdt => k_mem); (case hl => k_mem); (case hi => omega)); intro _ _ _ _ _; (try dsimp only); (try k_sweep))
  k_with "exec While" => k_while (fun _ a => 0 ≤ a ∧ 0 ≤ codeAt codes a ∧ codeAt codes a ≠ 10 ∧ AbInv codes T9 a) (fun _ a => codes.length - a.toNat) "self.at"
  k_with "state" => (k_dflt (first | exact ⟨by assumption, hH.1, hH.2, by assumption⟩ | exact ab_esc hC (by assumption) (by assumption) (by assumption) | exact ab_go hC (by assumption) (by assumption) (by assumption) (by assumption) | exact (ab_twice (by assumption) (by assumption) (by assumption) (by assumption)).elim | exact (ab_no hC (by assumption) (by assumption) (by assumption)).elim))
  k_with "measure" => (k_dflt (exact ab_less (by assumption) (by assumption) (by omega)))
  have N3 : News h₀ L s.heap [(t, instObj 258 d), (d, tokD w l at1 o k1 k2 k3 ta to'), (l, listOf its.toArray n)] := cb_drop N (by simp only [List.forall_mem_cons, List.not_mem_nil, false_implies, implies_true, and_true]; exact ⟨ht, hdt, hl⟩)
  have hz := hC.size
  have o1' := neN o1
  have o2' := neN o2
  refine wpAny_call ?_
  k_dflt (refine' enter3 ?k1 ?k2 ?k3 ?k4 ?k5 ?kA ?kF ?kK ?k6 ?k7 ?k8 ?k9 ?kB ?_ ?c2 ?c3 ?c4 ?c5; (case kA => exact rfl); (case kF => exact rfl); (case kK => first | exact rfl | assumption); (case k1 => k_asm); (case k2 => k_asm); (case k3 => k_asm); (case k4 => exact N3); (case k5 => k_asm); (case k6 => k_is); (case k7 => k_is); (case k8 => ktr_room); (case k9 => first | exact BindsTo.of_eq rfl | exact binds_K (by k_in) rfl (by k_is) rfl rfl rfl); (case c5 => decide); (case kB => exact locs rfl); (case c2 => exact rfl); (case c3 => exact rfl); (case c4 => exact rfl); k_whole; intro g' L' h' hg FG' F' N' B' X' T'; (try dsimp only); (try k_lift B'); (try k_fold))
  (rename News _ _ _ _ => N8); dsimp only [tokD] at N8
  k_steps
  all_goals (refine' moves_end (Q := Q) hret hU F N ht hl hg ?F' ?kF ?kN ?h1 ?h2 ?h3 ?e ?hV; (case F' => k_asm); (case kF => k_asm); (case kN => k_asm); (case h1 => k_mem); (case h2 => k_mem); (case h3 => k_mem); (case e => exact ab_stop (by assumption) (by assumption) (by assumption) (by assumption)); (case hV => rfl))
end


abbrev ClaimE (w : World) (mean : ExcName → Option Value) (mg mb : Str → Option Value) (n : Nat) (news : List (Addr × Obj)) (f : Addr) (vs : List Value)
    (C : Heap → Addr → (Str → Option Value) → Shared → (Value → Shared → Prop) → (Value → Shared → Prop) → List Env → Prop) : Prop :=
  ∀ (dp un : Nat) (gd : Option (List Code)) (cn : Str) (cs : Scope) (a : Addr) (ccd : Value) (cl : List (Str × Addr)) (outer : List Env) (A₀ : Around) (base h₀ : Heap) (L : Addr) (m : Str → Option Value) (s : Shared) (Q E : Value → Shared → Prop),
    Below A₀ base outer h₀ → Fr h₀ L s.heap m → (hd.heap_39 w.params).In h₀ → News h₀ L s.heap news → Top hd.view_39 (looseW hd.view_39 []) mean mg mb h₀ → cs.kind = .function → dp + n < recursionLimit → un + 8 * n < cLine →
    C h₀ L m s Q E (envX cn cs L a ccd cl :: outer) → wpAny (model PySem.Challenge.rw_rr0019_01.row.prog w) (ktrTop dp un gd cn cs L a ccd cl outer) (call (.ref f) vs) Q E s
/-- what a thrown fault leaves -/
abbrev Throws (w : World) (at2 : Int) (d l : Addr) (o : Int) (k1 k2 k3 to' : Tok) (l9 : List Env) (s : Shared) (E : Value → Shared → Prop) : Prop :=
  ∀ (e : Addr) (h' : Heap) (tk' : Nat) (t2 : Tok), Thrown l9 s.heap d (tokD w l at2 o k1 k2 k3 t2 to') e h' → E (.ref e) { s with heap := h', toks := tk' }
/-- a list of ints comes back, the place moved -/
abbrev MovesL (w : World) (at2 : Int) (t d l : Addr) (its : List Value) (n : Nat) (at1 o : Int) (k1 k2 k3 ta to' : Tok) (news : List (Addr × Obj)) (news' : Tok → List (Addr × Obj)) (h₀ : Heap) (L : Addr) (m : Str → Option Value) (s : Shared) (Q : Value → Shared → Prop) : Prop :=
  ∀ (r : Addr) (jts : List Value) (n9 : Nat) (ns : List Int) (h' : Heap) (tk' : Nat) (t2 : Tok), IntsAre jts ns → (∀ x ∈ ns, 0 ≤ x ∧ x ≤ 233) → ns.length < 200 → Fr h₀ L h' m → News h₀ L h' ((r, listOf jts.toArray n9) :: news' t2) → Q (.ref r) { s with heap := h', toks := tk' }
def quoF (q : Int) : List Int → Option (Bool × Nat)
  | [] => none
  | c :: r => if c = q then (if hdC r = q then none else some (true, 1)) else if c = 10 then none else if c = 92 then (if q = 39 then (abLen (c :: r)).map (fun k => (false, k)) else none) else (quoF q r).map (fun p => (p.1, p.2 + 1))
def QuoInv (q : Int) (codes : List Int) (b : Bool) (T a : Int) : Prop := ∃ k : Nat, quoF q (codes.drop a.toNat) = some (b, k) ∧ a + k = T
def RangeL (xs : List Int) : Prop := ∀ x ∈ xs, 0 ≤ x ∧ x ≤ 233
theorem range_snoc {xs : List Int} {c : Int} (h : RangeL xs) (h1 : 32 ≤ c) (h2 : c ≤ 233) : RangeL (xs ++ [c]) := fun x hx => by
  rcases List.mem_append.mp hx with p | p
  · exact h x p
  · rw [List.mem_singleton.mp p]; omega
theorem quo_cons {q : Int} {codes : List Int} {b : Bool} {T a : Int} (h : QuoInv q codes b T a) : ∃ c r k, codes.drop a.toNat = c :: r ∧ codeAt codes a = c ∧ c ∈ codes ∧ quoF q (c :: r) = some (b, k) ∧ a + (k : Nat) = T := by
  obtain ⟨k, hk, e⟩ := h
  cases p : codes.drop a.toNat with
  | nil => rw [p] at hk; cases hk
  | cons c r => exact ⟨c, r, k, rfl, by unfold codeAt; rw [p]; rfl, List.mem_of_mem_drop (p ▸ List.mem_cons_self), p ▸ hk, e⟩
theorem quo_here {q : Int} {codes : List Int} {b : Bool} {T a : Int} (hC : Good codes) (hq : q ≠ 10) (h : QuoInv q codes b T a) : 32 ≤ codeAt codes a ∧ codeAt codes a ≤ 233 ∧ codeAt codes a ≠ 127 := by
  obtain ⟨c, r, k, p, ec, hm, hk, _⟩ := quo_cons h
  have := hC.low c hm
  rw [ec]
  rcases this with z | z
  · rw [quoF, if_neg (by omega), if_pos z] at hk; cases hk
  · exact z
theorem quo_lt {q : Int} {codes : List Int} {b : Bool} {T a : Int} (hC : Good codes) (h0 : 0 ≤ a) (hq : q ≠ 10) (h : QuoInv q codes b T a) : a < 200 := by
  have x := quo_here hC hq h
  have := codeAt_some (codes := codes) (i := a) h0 (by omega)
  have := hC.size
  omega
theorem quo_no92 {codes : List Int} {b : Bool} {T a : Int} (h : QuoInv 34 codes b T a) : codeAt codes a ≠ 92 := fun h92 => by
  obtain ⟨c, r, k, p, ec, hm, hk, _⟩ := quo_cons h
  rw [quoF, if_neg (by omega), if_neg (by omega), if_pos (by omega), if_neg (by decide)] at hk; cases hk
theorem quo_go {q : Int} {codes : List Int} {b : Bool} {T a : Int} (h0 : 0 ≤ a) (h : QuoInv q codes b T a) (h1 : codeAt codes a ≠ q) (h2 : codeAt codes a ≠ 92) (hC : Good codes) (hq : q ≠ 10) : QuoInv q codes b T (a + 1) := by
  obtain ⟨c, r, k, p, ec, hm, hk, e⟩ := quo_cons h
  have h10 := (quo_here hC hq h).1
  rw [quoF, if_neg (by omega), if_neg (by omega), if_neg (by omega)] at hk
  obtain ⟨⟨b', k'⟩, hk', ek⟩ := Option.map_eq_some_iff.mp hk
  cases ek
  exact ⟨k', by rw [drop_one' h0, p]; exact hk', by omega⟩
theorem quo_stop {q : Int} {codes : List Int} {b : Bool} {T a : Int} (h0 : 0 ≤ a) (h : QuoInv q codes b T a) (h1 : codeAt codes a = q) (h2 : codeAt codes (a + 1) ≠ q) : b = true ∧ a + 1 = T := by
  obtain ⟨c, r, k, p, ec, hm, hk, e⟩ := quo_cons h
  unfold codeAt at h2
  rw [drop_one' h0, p] at h2
  have h2' : ¬ hdC r = q := h2
  rw [quoF, if_pos (by omega), if_neg h2'] at hk
  cases hk; exact ⟨rfl, by omega⟩
theorem quo_twice {q : Int} {codes : List Int} {b : Bool} {T a : Int} (h : QuoInv q codes b T a) (h0 : 0 ≤ a) (h1 : codeAt codes a = q) (h2 : codeAt codes (a + 1) = q) : False := by
  obtain ⟨c, r, k, p, ec, hm, hk, e⟩ := quo_cons h
  unfold codeAt at h2
  rw [drop_one' h0, p] at h2
  have h2' : hdC r = q := h2
  rw [quoF, if_pos (by omega), if_pos h2'] at hk
  cases hk
theorem quo_esc {codes : List Int} {b : Bool} {T a : Int} (h : QuoInv 39 codes b T a) (h1 : codeAt codes a = 92) : b = false ∧ AbInv codes T a := by
  obtain ⟨c, r, k, p, ec, hm, hk, e⟩ := quo_cons h
  rw [quoF, if_neg (by omega), if_neg (by omega), if_pos (by omega), if_pos rfl] at hk
  obtain ⟨k', hk', ek⟩ := Option.map_eq_some_iff.mp hk
  cases ek
  exact ⟨rfl, _, by rw [p]; exact hk', e⟩
theorem quo_end34 {codes : List Int} {b : Bool} {T a : Int} {xs : List Int} (hC : Good codes) (h : QuoInv 34 codes b T a) (h0 : 0 ≤ a) (hl : (xs.length : Int) ≤ a) (hr : RangeL xs) (h1 : codeAt codes a ≠ 34) (h2 : codeAt codes a ≠ 92) :
    0 ≤ a + 1 ∧ a + 1 < 200 ∧ 32 ≤ codeAt codes (a + 1) ∧ codeAt codes (a + 1) ≤ 233 ∧ codeAt codes (a + 1) ≠ 127 ∧ codeAt codes (a + 1) ≠ 92 ∧ ((xs ++ [codeAt codes a]).length : Int) ≤ a + 1 ∧ RangeL (xs ++ [codeAt codes a]) ∧ QuoInv 34 codes b T (a + 1) := by
  have z := quo_go h0 h h1 h2 hC (by decide)
  have y := quo_here hC (by decide) z
  have x := quo_here hC (by decide) h
  exact ⟨by omega, quo_lt hC (by omega) (by decide) z, y.1, y.2.1, y.2.2, quo_no92 z, by rw [List.length_append, List.length_singleton]; omega, range_snoc hr x.1 x.2.1, z⟩
theorem quo_end39 {codes : List Int} {b : Bool} {T a : Int} {xs : List Int} (hC : Good codes) (h : QuoInv 39 codes b T a) (h0 : 0 ≤ a) (hl : (xs.length : Int) ≤ a) (hr : RangeL xs) (h1 : codeAt codes a ≠ 39) (h2 : codeAt codes a ≠ 92) :
    0 ≤ a + 1 ∧ a + 1 < 200 ∧ 32 ≤ codeAt codes (a + 1) ∧ codeAt codes (a + 1) ≤ 233 ∧ codeAt codes (a + 1) ≠ 127 ∧ ((xs ++ [codeAt codes a]).length : Int) ≤ a + 1 ∧ RangeL (xs ++ [codeAt codes a]) ∧ QuoInv 39 codes b T (a + 1) := by
  have z := quo_go h0 h h1 h2 hC (by decide)
  have y := quo_here hC (by decide) z
  have x := quo_here hC (by decide) h
  exact ⟨by omega, quo_lt hC (by omega) (by decide) z, y.1, y.2.1, y.2.2, by rw [List.length_append, List.length_singleton]; omega, range_snoc hr x.1 x.2.1, z⟩
local macro_rules | `(tactic| walk_at "call builtin:list.append") => `(tactic| (k_here; (with_reducible show wpAny _ _ (call (Value.builtin _) [Value.ref _, _]) _ _ _); k_dflt (refine' append_K ?q1 ?q2 ?q3 ?_ ?qz; (case q1 => k_asm); (case q2 => k_asm); (case q3 => k_upd); (case qz => (rw [List.size_toArray, PySem.sizeLine_eq]; omega)); k_whole); intro h' F' N'; (try simp only [List.push_toArray] at N'); (try k_sweep)))
theorem movesL_end {w : World} {at1 at2 a2 o : Int} {t d l r : Addr} {its jts : List Value} {ns : List Int} {n n9 : Nat} {k1 k2 k3 ta to' t2 : Tok} {news nn : List (Addr × Obj)} {news' : Tok → List (Addr × Obj)} {h₀ g h' : Heap} {L L' : Addr} {m m' : Str → Option Value} {s : Shared} {Q : Value → Shared → Prop} {tk : Nat}
    (hret : MovesL w at2 t d l its n at1 o k1 k2 k3 ta to' news news' h₀ L m s Q)
    (hU : ∀ t2, Upd d (tokD w l at1 o k1 k2 k3 ta to') (tokD w l at2 o k1 k2 k3 t2 to') news (news' t2))
    (F : Fr h₀ L s.heap m) (N : News h₀ L s.heap news) (ht : (t, instObj 258 d) ∈ news) (hl : (l, listOf its.toArray n) ∈ news) (hg : Rest s.heap [t, d, l] g)
    (F' : Fr g L' h' m') (kF : Fr h₀ L h' m) (kN : News h₀ L h' nn) (h0 : (r, listOf jts.toArray n9) ∈ nn) (h1 : (t, instObj 258 d) ∈ nn) (h2 : (d, tokD w l a2 o k1 k2 k3 t2 to') ∈ nn) (h3 : (l, listOf its.toArray n) ∈ nn) (hI : IntsAre jts ns) (hr : RangeL ns) (hz : ns.length < 200) (e : a2 = at2) :
    Q (.ref r) { s with heap := h', toks := tk } := by
  subst e
  refine hret r jts n9 ns h' tk t2 hI hr hz kF fun p hp => ?_
  rcases List.mem_cons.mp hp with rfl | hp
  · exact kN _ h0
  · exact back3 hg F' F N (hU t2) ht hl (kN _ h1).1 (kN _ h2).1 (kN _ h3).1 p hp
section
variable {w : World} {mean : ExcName → Option Value} {mg mb : Str → Option Value} {news : List (Addr × Obj)} {news' : Tok → List (Addr × Obj)} {t d l : Addr} {its : List Value} {n : Nat} {codes : List Int} {at1 o : Int} {k1 k2 k3 ta to' : Tok}
theorem c_quoted34 {T9 : Int} (hC : Good codes) (hI : IntsAre its codes) (ht : (t, instObj 258 d) ∈ news) (hdt : (d, tokD w l at1 o k1 k2 k3 ta to') ∈ news) (hl : (l, listOf its.toArray n) ∈ news) (h0 : 0 ≤ at1) (o1 : t ≠ d) (o2 : l ≠ d) (tk1 tk2 : Tok) (hq : QuoInv 34 codes true T9 (at1 + 1)) :
    Claim w mean mg mb 20 news 241 [.ref t, .int at1 tk1, .int 34 tk2] (fun h₀ L m s Q => (∀ t2, Upd d (tokD w l at1 o k1 k2 k3 ta to') (tokD w l T9 o k1 k2 k3 t2 to') news (news' t2)) ∧ MovesL w T9 t d l its n at1 o k1 k2 k3 ta to' news news' h₀ L m s Q) := by
  (unfold Claim; k_fill; w_top off)
  intro dp un gd cn cs a ccd cl outer A₀ base h₀ L m s Q E B F X N T hk hd hu ⟨hU, hret⟩
  have hH := quo_here hC (by decide) hq
  have hH2 := quo_no92 hq
  have hH3 := quo_lt hC (by omega) (by decide) hq
  k_with_none
  k_with "call ref" => (k_here; (with_reducible show wpAny _ _ (call (Value.ref 143) _) _ _ _); k_dflt (refine' c_code_at ?hC ?hI ?ht ?hdt ?hl _ _ ?hi _ _ _ _ _ _ _ _ _ _ _ _ _ _ _ _ _ ?k1 ?k2 ?k3 ?k4 ?k5 ?k6 ?k7 ?k8 ?_; (case k4 => k_asm); (case k1 => k_asm); (case k2 => k_asm); (case k3 => k_asm); (case k5 => k_asm); (case k6 => first | exact rfl | assumption); (case k7 => ktr_room); (case k8 => ktr_units); (case hC => assumption); (case hI => assumption); (case ht => k_mem); (case hdt => k_mem); (case hl => k_mem); (case hi => omega)); intro _ _ _ _ _; (try dsimp only); (try k_sweep))
  k_with "call ref" => (k_here; (with_reducible show wpAny _ _ (call (Value.ref 143) _) _ _ _); k_dflt (refine' c_code_at_v ?hv ?hC ?hI ?ht ?hdt ?hl _ ?hi _ _ _ _ _ _ _ _ _ _ _ _ _ _ _ _ _ ?k1 ?k2 ?k3 ?k4 ?k5 ?k6 ?k7 ?k8 ?_; (case k4 => k_asm); (case k1 => k_asm); (case k2 => k_asm); (case k3 => k_asm); (case k5 => k_asm); (case k6 => first | exact rfl | assumption); (case k7 => ktr_room); (case k8 => ktr_units); (case hC => assumption); (case hv => with_reducible assumption); (case hI => assumption); (case ht => k_mem); (case hdt => k_mem); (case hl => k_mem); (case hi => omega)); intro _ _ _ _ _; (try dsimp only); (try k_sweep))
  k_with "call ref" => (k_here; (with_reducible show wpAny _ _ (call (Value.ref 95) _) _ _ _); k_dflt (refine' c_is_quotable _ _ ?q1 ?q2 ?q3 _ _ _ _ _ _ _ _ _ _ _ _ _ _ _ _ _ ?k1 ?k2 ?k3 ?k4 ?k5 ?k6 ?k7 ?k8 ?_; (case k4 => k_asm); (case k1 => k_asm); (case k2 => k_asm); (case k3 => k_asm); (case k5 => k_asm); (case k6 => first | exact rfl | assumption); (case k7 => ktr_room); (case k8 => ktr_units); (case q1 => omega); (case q2 => omega); (case q3 => omega)); intro _ _ _ _ _; (try dsimp only); (try k_sweep))
  k_with "call ref" => (k_here; (with_reducible show wpAny _ _ (call (Value.ref 248) _) _ _ _); k_dflt (refine' c_escape ?hC ?hI ?ht ?hdt ?hl ?h0 ?hn _ _ _ _ _ _ _ _ _ _ _ _ _ _ _ _ _ ?k1 ?k2 ?k3 ?k4 ?k5 ?k6 ?k7 ?k8 ?_; (case k4 => k_asm); (case k1 => k_asm); (case k2 => k_asm); (case k3 => k_asm); (case k5 => k_asm); (case k6 => first | exact rfl | assumption); (case k7 => ktr_room); (case k8 => ktr_units); (case hC => assumption); (case hI => assumption); (case ht => k_mem); (case hdt => k_mem); (case hl => k_mem); (case h0 => omega); (case hn => assumption)); intro _ _ _ _ _; (try dsimp only); (try k_sweep))
  k_with "call ref" => (k_here; (with_reducible show wpAny _ _ (call (Value.ref 157) _) _ _ _); k_dflt (refine' c_fault ?hC ?hI ?ht ?hdt ?hl ?o1 ?o2 _ _ _ ?h9 _ _ _ _ _ _ _ _ _ _ _ _ _ _ _ _ _ ?k1 ?k2 ?k3 ?k4 ?k5 ?k6 ?k7 ?k8 ?_; (case k4 => k_asm); (case k1 => k_asm); (case k2 => k_asm); (case k3 => k_asm); (case k5 => k_asm); (case k6 => first | exact rfl | assumption); (case k7 => ktr_room); (case k8 => ktr_units); (case hC => assumption); (case hI => assumption); (case ht => k_mem); (case hdt => k_mem); (case hl => k_mem); (case o1 => k_ne); (case o2 => k_ne); (case h9 => omega)); intro _ _ _ _ _ _ _; (try dsimp only); (try k_sweep))
  k_with "call ref" => (k_here; (with_reducible show wpAny _ _ (call (Value.ref 255) _) _ _ _); k_dflt (refine' c_abandon ?hC ?hI ?ht ?hdt ?hl ?h0 ?o1 ?o2 _ ?hab _ _ _ _ _ _ _ _ _ _ _ _ _ _ _ _ _ ?k1 ?k2 ?k3 ?k4 ?k5 ?k6 ?k7 ?k8 ⟨?kU, ?_⟩; (case k4 => k_asm); (case k1 => k_asm); (case k2 => k_asm); (case k3 => k_asm); (case k5 => k_asm); (case k6 => first | exact rfl | assumption); (case k7 => ktr_room); (case k8 => ktr_units); (case hC => assumption); (case hI => assumption); (case ht => k_mem); (case hdt => k_mem); (case hl => k_mem); (case h0 => omega); (case o1 => k_ne); (case o2 => k_ne); (case hab => assumption); (case kU => (intro t2; k_upd))); intro _ _ _ _ _ _ _; (try dsimp only); (try k_sweep))
  k_with "exec While" => k_while (fun _ xs a => 0 ≤ a ∧ a < 200 ∧ 32 ≤ codeAt codes a ∧ codeAt codes a ≤ 233 ∧ codeAt codes a ≠ 127 ∧ codeAt codes a ≠ 92 ∧ (xs.length : Int) ≤ a ∧ RangeL xs ∧ QuoInv 34 codes true T9 a) (fun _ _ a => codes.length - a.toNat) "codes" "self.at"
  k_with "state" => (k_dflt (first | exact ⟨by omega, hH3, hH.1, hH.2.1, hH.2.2, hH2, by (simp only [List.length_nil]; omega), (fun x hx => nomatch hx), hq⟩ | exact quo_end34 hC (by assumption) (by assumption) (by assumption) (by assumption) (by assumption) (by assumption) | exact (quo_twice (by assumption) (by assumption) (by assumption) (by assumption)).elim))
  k_with "measure" => (k_dflt (exact lay_less (by assumption) (by omega) (by omega)))
  have N3 : News h₀ L s.heap [(t, instObj 258 d), (d, tokD w l at1 o k1 k2 k3 ta to'), (l, listOf its.toArray n)] := cb_drop N (by simp only [List.forall_mem_cons, List.not_mem_nil, false_implies, implies_true, and_true]; exact ⟨ht, hdt, hl⟩)
  have hz := hC.size
  have o1' := neN o1
  have o2' := neN o2
  refine wpAny_call ?_
  k_dflt (refine' enter3 ?k1 ?k2 ?k3 ?k4 ?k5 ?kA ?kF ?kK ?k6 ?k7 ?k8 ?k9 ?kB ?_ ?c2 ?c3 ?c4 ?c5; (case kA => exact rfl); (case kF => exact rfl); (case kK => first | exact rfl | assumption); (case k1 => k_asm); (case k2 => k_asm); (case k3 => k_asm); (case k4 => exact N3); (case k5 => k_asm); (case k6 => k_is); (case k7 => k_is); (case k8 => ktr_room); (case k9 => first | exact BindsTo.of_eq rfl | exact binds_K (by k_in) rfl (by k_is) rfl rfl rfl); (case c5 => decide); (case kB => exact locs rfl); (case c2 => exact rfl); (case c3 => exact rfl); (case c4 => exact rfl); k_whole; intro g' L' h' hg FG' F' N' B' X' T'; (try dsimp only); (try k_lift B'); (try k_fold))
  (rename News _ _ _ _ => N8); dsimp only [tokD] at N8
  k_steps
  all_goals (have hz9 := quo_stop (by assumption) (by assumption) (by assumption) (by assumption); refine' movesL_end (Q := Q) hret hU F N ht hl hg ?F' ?kF ?kN ?h0 ?h1 ?h2 ?h3 ?hI ?hr ?hz ?e; (case F' => k_asm); (case kF => k_asm); (case kN => k_asm); (case h0 => k_mem); (case h1 => k_mem); (case h2 => k_mem); (case h3 => k_mem); (case hI => assumption); (case hr => assumption); (case hz => omega); (case e => exact hz9.2))
theorem c_quoted39 {T9 : Int} {b : Bool} (hC : Good codes) (hI : IntsAre its codes) (ht : (t, instObj 258 d) ∈ news) (hdt : (d, tokD w l at1 o k1 k2 k3 ta to') ∈ news) (hl : (l, listOf its.toArray n) ∈ news) (h0 : 0 ≤ at1) (o1 : t ≠ d) (o2 : l ≠ d) (tk1 tk2 : Tok) (hq : QuoInv 39 codes b T9 (at1 + 1)) :
    ClaimE w mean mg mb 26 news 241 [.ref t, .int at1 tk1, .int 39 tk2] (fun h₀ L m s Q E l9 => (∀ t2, Upd d (tokD w l at1 o k1 k2 k3 ta to') (tokD w l T9 o k1 k2 k3 t2 to') news (news' t2)) ∧ (b = true → MovesL w T9 t d l its n at1 o k1 k2 k3 ta to' news news' h₀ L m s Q) ∧ (b = false → Throws w T9 d l o k1 k2 k3 to' l9 s E)) := by
  (unfold ClaimE; k_fill; w_top off)
  intro dp un gd cn cs a ccd cl outer A₀ base h₀ L m s Q E B F X N T hk hd hu ⟨hU, hret0, hthrow⟩
  have hH := quo_here hC (by decide) hq
  have hH3 := quo_lt hC (by omega) (by decide) hq
  k_with_none
  k_with "call ref" => (k_here; (with_reducible show wpAny _ _ (call (Value.ref 143) _) _ _ _); k_dflt (refine' c_code_at ?hC ?hI ?ht ?hdt ?hl _ _ ?hi _ _ _ _ _ _ _ _ _ _ _ _ _ _ _ _ _ ?k1 ?k2 ?k3 ?k4 ?k5 ?k6 ?k7 ?k8 ?_; (case k4 => k_asm); (case k1 => k_asm); (case k2 => k_asm); (case k3 => k_asm); (case k5 => k_asm); (case k6 => first | exact rfl | assumption); (case k7 => ktr_room); (case k8 => ktr_units); (case hC => assumption); (case hI => assumption); (case ht => k_mem); (case hdt => k_mem); (case hl => k_mem); (case hi => omega)); intro _ _ _ _ _; (try dsimp only); (try k_sweep))
  k_with "call ref" => (k_here; (with_reducible show wpAny _ _ (call (Value.ref 143) _) _ _ _); k_dflt (refine' c_code_at_v ?hv ?hC ?hI ?ht ?hdt ?hl _ ?hi _ _ _ _ _ _ _ _ _ _ _ _ _ _ _ _ _ ?k1 ?k2 ?k3 ?k4 ?k5 ?k6 ?k7 ?k8 ?_; (case k4 => k_asm); (case k1 => k_asm); (case k2 => k_asm); (case k3 => k_asm); (case k5 => k_asm); (case k6 => first | exact rfl | assumption); (case k7 => ktr_room); (case k8 => ktr_units); (case hC => assumption); (case hv => with_reducible assumption); (case hI => assumption); (case ht => k_mem); (case hdt => k_mem); (case hl => k_mem); (case hi => omega)); intro _ _ _ _ _; (try dsimp only); (try k_sweep))
  k_with "call ref" => (k_here; (with_reducible show wpAny _ _ (call (Value.ref 95) _) _ _ _); k_dflt (refine' c_is_quotable _ _ ?q1 ?q2 ?q3 _ _ _ _ _ _ _ _ _ _ _ _ _ _ _ _ _ ?k1 ?k2 ?k3 ?k4 ?k5 ?k6 ?k7 ?k8 ?_; (case k4 => k_asm); (case k1 => k_asm); (case k2 => k_asm); (case k3 => k_asm); (case k5 => k_asm); (case k6 => first | exact rfl | assumption); (case k7 => ktr_room); (case k8 => ktr_units); (case q1 => omega); (case q2 => omega); (case q3 => omega)); intro _ _ _ _ _; (try dsimp only); (try k_sweep))
  k_with "call ref" => (k_here; (with_reducible show wpAny _ _ (call (Value.ref 248) _) _ _ _); k_dflt (refine' c_escape ?hC ?hI ?ht ?hdt ?hl ?h0 ?hn _ _ _ _ _ _ _ _ _ _ _ _ _ _ _ _ _ ?k1 ?k2 ?k3 ?k4 ?k5 ?k6 ?k7 ?k8 ?_; (case k4 => k_asm); (case k1 => k_asm); (case k2 => k_asm); (case k3 => k_asm); (case k5 => k_asm); (case k6 => first | exact rfl | assumption); (case k7 => ktr_room); (case k8 => ktr_units); (case hC => assumption); (case hI => assumption); (case ht => k_mem); (case hdt => k_mem); (case hl => k_mem); (case h0 => omega); (case hn => assumption)); intro _ _ _ _ _; (try dsimp only); (try k_sweep))
  k_with "call ref" => (k_here; (with_reducible show wpAny _ _ (call (Value.ref 157) _) _ _ _); k_dflt (refine' c_fault ?hC ?hI ?ht ?hdt ?hl ?o1 ?o2 _ _ _ ?h9 _ _ _ _ _ _ _ _ _ _ _ _ _ _ _ _ _ ?k1 ?k2 ?k3 ?k4 ?k5 ?k6 ?k7 ?k8 ?_; (case k4 => k_asm); (case k1 => k_asm); (case k2 => k_asm); (case k3 => k_asm); (case k5 => k_asm); (case k6 => first | exact rfl | assumption); (case k7 => ktr_room); (case k8 => ktr_units); (case hC => assumption); (case hI => assumption); (case ht => k_mem); (case hdt => k_mem); (case hl => k_mem); (case o1 => k_ne); (case o2 => k_ne); (case h9 => omega)); intro _ _ _ _ _ _ _; (try dsimp only); (try k_sweep))
  k_with "call ref" => (k_here; (with_reducible show wpAny _ _ (call (Value.ref 255) _) _ _ _); k_dflt (refine' c_abandon ?hC ?hI ?ht ?hdt ?hl ?h0 ?o1 ?o2 _ ?hab _ _ _ _ _ _ _ _ _ _ _ _ _ _ _ _ _ ?k1 ?k2 ?k3 ?k4 ?k5 ?k6 ?k7 ?k8 ⟨?kU, ?_⟩; (case k4 => k_asm); (case k1 => k_asm); (case k2 => k_asm); (case k3 => k_asm); (case k5 => k_asm); (case k6 => first | exact rfl | assumption); (case k7 => ktr_room); (case k8 => ktr_units); (case hC => assumption); (case hI => assumption); (case ht => k_mem); (case hdt => k_mem); (case hl => k_mem); (case h0 => omega); (case o1 => k_ne); (case o2 => k_ne); (case hab => assumption); (case kU => (intro t2; k_upd))); intro _ _ _ _ _ _ _; (try dsimp only); (try k_sweep))
  k_with "call ref" => (k_here; (with_reducible show wpAny _ _ (call (Value.ref 255) _) _ _ _); k_dflt (refine' c_abandon ?hC ?hI ?ht ?hdt ?hl ?h0 ?o1 ?o2 _ ?hab _ _ _ _ _ _ _ _ _ _ _ _ _ _ _ _ _ ?k1 ?k2 ?k3 ?k4 ?k5 ?k6 ?k7 ?k8 ⟨?kU, ?_⟩; (case k4 => k_asm); (case k1 => k_asm); (case k2 => k_asm); (case k3 => k_asm); (case k5 => k_asm); (case k6 => first | exact rfl | assumption); (case k7 => ktr_room); (case k8 => ktr_units); (case hC => assumption); (case hI => assumption); (case ht => k_mem); (case hdt => k_mem); (case hl => k_mem); (case h0 => omega); (case o1 => k_ne); (case o2 => k_ne); (case hab => first | assumption | exact (quo_esc (by assumption) (by assumption)).2); (case kU => (intro t2; k_upd))); intro _ _ _ _ _ _ _; (try dsimp only); (try k_sweep))
  k_with "exec While" => k_while (fun _ xs a => 0 ≤ a ∧ a < 200 ∧ 32 ≤ codeAt codes a ∧ codeAt codes a ≤ 233 ∧ codeAt codes a ≠ 127 ∧ (xs.length : Int) ≤ a ∧ RangeL xs ∧ QuoInv 39 codes b T9 a) (fun _ _ a => codes.length - a.toNat) "codes" "self.at"
  k_with "state" => (k_dflt (first | exact ⟨by omega, hH3, hH.1, hH.2.1, hH.2.2, by (simp only [List.length_nil]; omega), (fun x hx => nomatch hx), hq⟩ | exact quo_end39 hC (by assumption) (by assumption) (by assumption) (by assumption) (by assumption) (by assumption) | exact (quo_twice (by assumption) (by assumption) (by assumption) (by assumption)).elim | (exfalso; have := esc_at hC (by assumption) (by assumption); omega)))
  k_with "measure" => (k_dflt (exact lay_less (by assumption) (by omega) (by omega)))
  have N3 : News h₀ L s.heap [(t, instObj 258 d), (d, tokD w l at1 o k1 k2 k3 ta to'), (l, listOf its.toArray n)] := cb_drop N (by simp only [List.forall_mem_cons, List.not_mem_nil, false_implies, implies_true, and_true]; exact ⟨ht, hdt, hl⟩)
  have hz := hC.size
  have o1' := neN o1
  have o2' := neN o2
  refine wpAny_call ?_
  k_dflt (refine' enter3 ?k1 ?k2 ?k3 ?k4 ?k5 ?kA ?kF ?kK ?k6 ?k7 ?k8 ?k9 ?kB ?_ ?c2 ?c3 ?c4 ?c5; (case kA => exact rfl); (case kF => exact rfl); (case kK => first | exact rfl | assumption); (case k1 => k_asm); (case k2 => k_asm); (case k3 => k_asm); (case k4 => exact N3); (case k5 => k_asm); (case k6 => k_is); (case k7 => k_is); (case k8 => ktr_room); (case k9 => first | exact BindsTo.of_eq rfl | exact binds_K (by k_in) rfl (by k_is) rfl rfl rfl); (case c5 => decide); (case kB => exact locs rfl); (case c2 => exact rfl); (case c3 => exact rfl); (case c4 => exact rfl); k_whole; intro g' L' h' hg FG' F' N' B' X' T'; (try dsimp only); (try k_lift B'); (try k_fold))
  (rename News _ _ _ _ => N8); dsimp only [tokD] at N8
  k_steps
  all_goals first
    | (have hz9 := quo_stop (by assumption) (by assumption) (by assumption) (by assumption); have hret := hret0 hz9.1; refine' movesL_end (Q := Q) hret hU F N ht hl hg ?F' ?kF ?kN ?h0 ?h1 ?h2 ?h3 ?hI ?hr ?hz ?e; (case F' => k_asm); (case kF => k_asm); (case kN => k_asm); (case h0 => k_mem); (case h1 => k_mem); (case h2 => k_mem); (case h3 => k_mem); (case hI => assumption); (case hr => assumption); (case hz => omega); (case e => exact hz9.2))
    | (have hz9 := quo_esc (by assumption) (by assumption); refine' leave_first B' ?F' ?kN hg F N ht hl ?he ?h1 ?h2 ?h3 ?c1 ?c2 ?c3 ?_; (case F' => k_asm); (case kN => k_asm); (case he => k_mem); (case h1 => k_mem); (case h2 => k_mem); (case h3 => k_mem); (case c1 => (intro q; cases q)); (case c2 => (intro q; cases q)); (case c3 => (intro q; cases q)); intro h9 hT9; exact hthrow hz9.1 _ _ _ _ hT9)
end


def dig1 (codes : List Int) (a : Int) : Nat := digLen (codes.drop a.toNat)
def badNum (codes : List Int) (a : Int) : Bool := !(codeAt codes a == 48) && codeAt codes (a + dig1 codes a) == 46 && isDigit (codeAt codes (a + dig1 codes a + 1))
def numN (codes : List Int) (a : Int) : Nat := if codeAt codes a = 48 then 3 else if badNum codes a then dig1 codes a + 1 + dig1 codes (a + dig1 codes a + 1) else dig1 codes a
theorem num_48 {codes : List Int} {a : Int} (h : codeAt codes a = 48) : badNum codes a = false ∧ numN codes a = 3 := by
  unfold badNum numN
  rw [if_pos h, h]
  exact ⟨rfl, rfl⟩
theorem num_bad {codes : List Int} {a : Int} (h : codeAt codes a ≠ 48) (h1 : codeAt codes (a + digLen (codes.drop a.toNat)) = 46) (h2 : isDigit (codeAt codes (a + digLen (codes.drop a.toNat) + 1)) = true) :
    badNum codes a = true ∧ numN codes a = digLen (codes.drop a.toNat) + 1 + digLen (codes.drop (a + digLen (codes.drop a.toNat) + 1).toNat) := by
  have hb : badNum codes a = true := by
    unfold badNum dig1
    rw [h1, h2, beq_eq_false_iff_ne.mpr h]; rfl
  refine ⟨hb, ?_⟩
  unfold numN dig1
  rw [if_neg h, if_pos hb]
theorem num_ok1 {codes : List Int} {a : Int} (h : codeAt codes a ≠ 48) (h1 : codeAt codes (a + digLen (codes.drop a.toNat)) ≠ 46) :
    badNum codes a = false ∧ numN codes a = digLen (codes.drop a.toNat) := by
  have hb : badNum codes a = false := by
    unfold badNum dig1
    rw [beq_eq_false_iff_ne.mpr h1, Bool.and_false]; rfl
  refine ⟨hb, ?_⟩
  unfold numN dig1
  rw [if_neg h, if_neg (by rw [hb]; exact Bool.false_ne_true)]
theorem num_ok2 {codes : List Int} {a : Int} (h : codeAt codes a ≠ 48) (h2 : isDigit (codeAt codes (a + digLen (codes.drop a.toNat) + 1)) = false) :
    badNum codes a = false ∧ numN codes a = digLen (codes.drop a.toNat) := by
  have hb : badNum codes a = false := by
    unfold badNum dig1
    rw [h2, Bool.and_false]
  refine ⟨hb, ?_⟩
  unfold numN dig1
  rw [if_neg h, if_neg (by rw [hb]; exact Bool.false_ne_true)]
section
variable {w : World} {mean : ExcName → Option Value} {mg mb : Str → Option Value} {news : List (Addr × Obj)} {news' : Tok → List (Addr × Obj)} {t d l : Addr} {its : List Value} {n : Nat} {codes : List Int} {at1 o : Int} {k1 k2 k3 ta to' : Tok}
theorem c_numeral (hC : Good codes) (hI : IntsAre its codes) (ht : (t, instObj 258 d) ∈ news) (hdt : (d, tokD w l at1 o k1 k2 k3 ta to') ∈ news) (hl : (l, listOf its.toArray n) ∈ news) (h0 : 0 ≤ at1) (o1 : t ≠ d) (o2 : l ≠ d) (tk1 : Tok) (hd1 : digLen (codes.drop at1.toNat) ≤ 3) (hd2 : digLen (codes.drop (at1 + digLen (codes.drop at1.toNat) + 1).toNat) ≤ 3) :
    ClaimE w mean mg mb 26 news 220 [.ref t, .int at1 tk1] (fun h₀ L m s Q E l9 => (∀ t2, Upd d (tokD w l at1 o k1 k2 k3 ta to') (tokD w l (at1 + numN codes at1) o k1 k2 k3 t2 to') news (news' t2)) ∧
      (badNum codes at1 = false → (∀ (r : Addr) (x : Str) (tx : Tok) (v2 v3 : Value) (h' : Heap) (tk' : Nat) (t2 : Tok), x = Str.ofString "int" → Fr h₀ L h' m → News h₀ L h' ((r, tup3 (.str x tx) v2 v3) :: news' t2) → Q (.ref r) { s with heap := h', toks := tk' })) ∧
      (badNum codes at1 = true → Throws w (at1 + numN codes at1) d l o k1 k2 k3 to' l9 s E)) := by
  (unfold ClaimE; k_fill; w_top off)
  intro dp un gd cn cs a ccd cl outer A₀ base h₀ L m s Q E B F X N T hk hd hu ⟨hU, hret0, hthrow⟩
  k_with_none
  k_with "call ref" => (k_here; (with_reducible show wpAny _ _ (call (Value.ref 60) _) _ _ _); k_dflt (refine' c_is_digit _ _ _ _ _ _ _ _ _ _ _ _ _ _ _ _ _ _ _ ?k1 ?k2 ?k3 ?k4 ?k5 ?k6 ?k7 ?k8 ?_; (case k4 => k_asm); (case k1 => k_asm); (case k2 => k_asm); (case k3 => k_asm); (case k5 => k_asm); (case k6 => first | exact rfl | assumption); (case k7 => ktr_room); (case k8 => ktr_units)); intro _ _ _ _ _; (try dsimp only); (try k_sweep))
  k_with "call ref" => (k_here; (with_reducible show wpAny _ _ (call (Value.ref 143) _) _ _ _); k_dflt (refine' c_code_at ?hC ?hI ?ht ?hdt ?hl _ _ ?hi _ _ _ _ _ _ _ _ _ _ _ _ _ _ _ _ _ ?k1 ?k2 ?k3 ?k4 ?k5 ?k6 ?k7 ?k8 ?_; (case k4 => k_asm); (case k1 => k_asm); (case k2 => k_asm); (case k3 => k_asm); (case k5 => k_asm); (case k6 => first | exact rfl | assumption); (case k7 => ktr_room); (case k8 => ktr_units); (case hC => assumption); (case hI => assumption); (case ht => k_mem); (case hdt => k_mem); (case hl => k_mem); (case hi => omega)); intro _ _ _ _ _; (try dsimp only); (try k_sweep))
  k_with "call ref" => (k_here; (with_reducible show wpAny _ _ (call (Value.ref 143) _) _ _ _); k_dflt (refine' c_code_at_v ?hv ?hC ?hI ?ht ?hdt ?hl _ ?hi _ _ _ _ _ _ _ _ _ _ _ _ _ _ _ _ _ ?k1 ?k2 ?k3 ?k4 ?k5 ?k6 ?k7 ?k8 ?_; (case k4 => k_asm); (case k1 => k_asm); (case k2 => k_asm); (case k3 => k_asm); (case k5 => k_asm); (case k6 => first | exact rfl | assumption); (case k7 => ktr_room); (case k8 => ktr_units); (case hC => assumption); (case hv => with_reducible assumption); (case hI => assumption); (case ht => k_mem); (case hdt => k_mem); (case hl => k_mem); (case hi => omega)); intro _ _ _ _ _; (try dsimp only); (try k_sweep))
  k_with "call ref" => (k_here; (with_reducible show wpAny _ _ (call (Value.ref 102) _) _ _ _); k_dflt (refine' c_digit_value _ _ _ _ _ _ _ _ _ _ _ _ _ _ _ _ _ _ _ ?k1 ?k2 ?k3 ?k4 ?k5 ?k6 ?k7 ?k8 ?_; (case k4 => k_asm); (case k1 => k_asm); (case k2 => k_asm); (case k3 => k_asm); (case k5 => k_asm); (case k6 => first | exact rfl | assumption); (case k7 => ktr_room); (case k8 => ktr_units)); intro _ _ _ _ _; (try dsimp only); (try k_sweep))
  k_with "call ref" => (k_here; (with_reducible show wpAny _ _ (call (Value.ref 227) _) _ _ _); k_dflt (refine' c_digits ?hC ?hI ?ht ?hdt ?hl ?h0 ?o1 ?o2 _ _ ?hi0 ?hdl _ _ _ _ _ _ _ _ _ _ _ _ _ _ _ _ _ ?k1 ?k2 ?k3 ?k4 ?k5 ?k6 ?k7 ?k8 ⟨?kU, ?_⟩; (case k4 => k_asm); (case k1 => k_asm); (case k2 => k_asm); (case k3 => k_asm); (case k5 => k_asm); (case k6 => first | exact rfl | assumption); (case k7 => ktr_room); (case k8 => ktr_units); (case hC => assumption); (case hI => assumption); (case ht => k_mem); (case hdt => k_mem); (case hl => k_mem); (case h0 => omega); (case o1 => k_ne); (case o2 => k_ne); (case hi0 => omega); (case hdl => first | assumption | omega); (case kU => (intro t2; k_upd))); intro _ _ _ _ _ _ _; (try dsimp only); (try k_sweep))
  k_with "call ref" => (k_here; (with_reducible show wpAny _ _ (call (Value.ref 234) _) _ _ _); k_dflt (refine' c_character ?hC ?hI ?ht ?hdt ?hl ?h0 ?o1 ?o2 _ ?hn _ _ _ _ _ _ _ _ _ _ _ _ _ _ _ _ _ ?k1 ?k2 ?k3 ?k4 ?k5 ?k6 ?k7 ?k8 ⟨?kU, ?_⟩; (case k4 => k_asm); (case k1 => k_asm); (case k2 => k_asm); (case k3 => k_asm); (case k5 => k_asm); (case k6 => first | exact rfl | assumption); (case k7 => ktr_room); (case k8 => ktr_units); (case hC => assumption); (case hI => assumption); (case ht => k_mem); (case hdt => k_mem); (case hl => k_mem); (case h0 => omega); (case o1 => k_ne); (case o2 => k_ne); (case hn => assumption); (case kU => (intro t2; k_upd))); intro _ _ _ _ _ _ _; (try dsimp only); (try k_sweep))
  k_with "call ref" => (k_here; (with_reducible show wpAny _ _ (call (Value.ref 157) _) _ _ _); k_dflt (refine' c_fault ?hC ?hI ?ht ?hdt ?hl ?o1 ?o2 _ _ _ ?h9 _ _ _ _ _ _ _ _ _ _ _ _ _ _ _ _ _ ?k1 ?k2 ?k3 ?k4 ?k5 ?k6 ?k7 ?k8 ?_; (case k4 => k_asm); (case k1 => k_asm); (case k2 => k_asm); (case k3 => k_asm); (case k5 => k_asm); (case k6 => first | exact rfl | assumption); (case k7 => ktr_room); (case k8 => ktr_units); (case hC => assumption); (case hI => assumption); (case ht => k_mem); (case hdt => k_mem); (case hl => k_mem); (case o1 => k_ne); (case o2 => k_ne); (case h9 => omega)); intro _ _ _ _ _ _ _; (try dsimp only); (try k_sweep))
  by_cases h48 : codeAt codes at1 = 48
  · have hcc := (nought_at hC h0 h48).1
    have N3 : News h₀ L s.heap [(t, instObj 258 d), (d, tokD w l at1 o k1 k2 k3 ta to'), (l, listOf its.toArray n)] := cb_drop N (by simp only [List.forall_mem_cons, List.not_mem_nil, false_implies, implies_true, and_true]; exact ⟨ht, hdt, hl⟩)
    have hz := hC.size
    have o1' := neN o1
    have o2' := neN o2
    refine wpAny_call ?_
    k_dflt (refine' enter3 ?k1 ?k2 ?k3 ?k4 ?k5 ?kA ?kF ?kK ?k6 ?k7 ?k8 ?k9 ?kB ?_ ?c2 ?c3 ?c4 ?c5; (case kA => exact rfl); (case kF => exact rfl); (case kK => first | exact rfl | assumption); (case k1 => k_asm); (case k2 => k_asm); (case k3 => k_asm); (case k4 => exact N3); (case k5 => k_asm); (case k6 => k_is); (case k7 => k_is); (case k8 => ktr_room); (case k9 => first | exact BindsTo.of_eq rfl | exact binds_K (by k_in) rfl (by k_is) rfl rfl rfl); (case c5 => decide); (case kB => exact locs rfl); (case c2 => exact rfl); (case c3 => exact rfl); (case c4 => exact rfl); k_whole; intro g' L' h' hg FG' F' N' B' X' T'; (try dsimp only); (try k_lift B'); (try k_fold))
    (rename News _ _ _ _ => N8); dsimp only [tokD] at N8
    k_steps
    all_goals (have hz9 := num_48 h48; have hret := hret0 hz9.1; (refine' movesT_end (Q := Q) hret hU F N ht hl hg ?F' ?kF ?kN ?h0 ?h1 ?h2 ?h3 ?e ?hV; (case F' => k_asm); (case kF => k_asm); (case kN => k_asm); (case h0 => k_mem); (case h1 => k_mem); (case h2 => k_mem); (case h3 => k_mem); (case e => omega); (case hV => rfl)))
  · have N3 : News h₀ L s.heap [(t, instObj 258 d), (d, tokD w l at1 o k1 k2 k3 ta to'), (l, listOf its.toArray n)] := cb_drop N (by simp only [List.forall_mem_cons, List.not_mem_nil, false_implies, implies_true, and_true]; exact ⟨ht, hdt, hl⟩)
    have hz := hC.size
    have o1' := neN o1
    have o2' := neN o2
    refine wpAny_call ?_
    k_dflt (refine' enter3 ?k1 ?k2 ?k3 ?k4 ?k5 ?kA ?kF ?kK ?k6 ?k7 ?k8 ?k9 ?kB ?_ ?c2 ?c3 ?c4 ?c5; (case kA => exact rfl); (case kF => exact rfl); (case kK => first | exact rfl | assumption); (case k1 => k_asm); (case k2 => k_asm); (case k3 => k_asm); (case k4 => exact N3); (case k5 => k_asm); (case k6 => k_is); (case k7 => k_is); (case k8 => ktr_room); (case k9 => first | exact BindsTo.of_eq rfl | exact binds_K (by k_in) rfl (by k_is) rfl rfl rfl); (case c5 => decide); (case kB => exact locs rfl); (case c2 => exact rfl); (case c3 => exact rfl); (case c4 => exact rfl); k_whole; intro g' L' h' hg FG' F' N' B' X' T'; (try dsimp only); (try k_lift B'); (try k_fold))
    (rename News _ _ _ _ => N8); dsimp only [tokD] at N8
    k_steps
    all_goals first
      | (have hz9 := num_bad h48 (by assumption) (by assumption); refine' leave_first B' ?F' ?kN hg F N ht hl ?he ?h1 ?h2 ?h3 ?c1 ?c2 ?c3 ?_; (case F' => k_asm); (case kN => k_asm); (case he => k_mem); (case h1 => k_mem); (case h2 => k_mem); (case h3 => k_mem); (case c1 => (intro q; cases q)); (case c2 => (intro q; cases q)); (case c3 => (intro q; cases q)); intro h9 hT9; (rw [show at1 + (digLen (codes.drop at1.toNat) : Int) + 1 + digLen (codes.drop (at1 + digLen (codes.drop at1.toNat) + 1).toNat) = at1 + numN codes at1 from by omega] at hT9); exact hthrow hz9.1 _ _ _ _ hT9)
      | ((first | have hz9 := num_ok1 h48 (by assumption) | have hz9 := num_ok2 h48 (by assumption)); have hret := hret0 hz9.1; (refine' movesT_end (Q := Q) hret hU F N ht hl hg ?F' ?kF ?kN ?h0 ?h1 ?h2 ?h3 ?e ?hV; (case F' => k_asm); (case kF => k_asm); (case kN => k_asm); (case h0 => k_mem); (case h1 => k_mem); (case h2 => k_mem); (case h3 => k_mem); (case e => omega); (case hV => rfl)))
end


inductive K3 where
  | fin | eof | other | fault
def kindOk : K3 → Str → Prop
  | .fin, x => x = Str.ofString "end"
  | .eof, x => x = Str.ofString "eof"
  | .other, x => (x == Str.ofString "end") = false ∧ (x == Str.ofString "eof") = false
  | .fault, _ => False
inductive TokIs (codes : List Int) (a : Int) : K3 → Int → Prop
  | eof : codes.length ≤ a → TokIs codes a .eof a
  | opens : a < codes.length → codeAt codes a = 40 → TokIs codes a .other (a + 1)
  | small : a < codes.length → codeAt codes a ≠ 40 → isSmall (codeAt codes a) = true → TokIs codes a .other (a + wordLen (codes.drop a.toNat))
  | cap : a < codes.length → codeAt codes a ≠ 40 → isSmall (codeAt codes a) = false → isCapital (codeAt codes a) = true → TokIs codes a .other (a + wordLen (codes.drop a.toNat))
  | num {kc : K3} : a < codes.length → codeAt codes a ≠ 40 → codeAt codes a ≠ 95 → isSmall (codeAt codes a) = false → isCapital (codeAt codes a) = false → isDigit (codeAt codes a) = true →
      digLen (codes.drop a.toNat) ≤ 3 → digLen (codes.drop (a + digLen (codes.drop a.toNat) + 1).toNat) ≤ 3 → kc = (if badNum codes a then .fault else .other) → TokIs codes a kc (a + numN codes a)
  | quo {b : Bool} {T : Int} {kc : K3} : a < codes.length → codeAt codes a = 39 → QuoInv 39 codes b T (a + 1) → kc = (if b then .other else .fault) → TokIs codes a kc T
  | dquo {T : Int} : a < codes.length → codeAt codes a = 34 → QuoInv 34 codes true T (a + 1) → TokIs codes a .other T
  | sym {kc : K3} : a < codes.length → codeAt codes a ≠ 40 → codeAt codes a ≠ 95 → codeAt codes a ≠ 39 → codeAt codes a ≠ 34 → codeAt codes a ≠ 96 → isSmall (codeAt codes a) = false → isCapital (codeAt codes a) = false → isDigit (codeAt codes a) = false → isSymbol (codeAt codes a) = true →
      kc = (if isEnd codes a then .fin else .other) → TokIs codes a kc (a + symTok codes a)
  | close : a < codes.length → codeAt codes a = 41 → TokIs codes a .other (a + 1)
  | comma : a < codes.length → codeAt codes a = 44 → TokIs codes a .other (a + 1)
  | bad : a < codes.length → codeAt codes a = 233 → TokIs codes a .fault (a + 1)
theorem kn_fault {kc : K3} {b : Bool} (h : kc = if b then K3.fault else K3.other) (hb : b = true) : kc = .fault := by rw [h, hb]; rfl
theorem kn_other {kc : K3} {b : Bool} {x : Str} (h : kc = if b then K3.fault else K3.other) (hb : b = false) (hx : x = Str.ofString "int") : kindOk kc x := by
  rw [h, hb, hx]; exact ⟨by decide +kernel, by decide +kernel⟩
theorem kq_fault {kc : K3} {b : Bool} (h : kc = if b then K3.other else K3.fault) (hb : b = false) : kc = .fault := by rw [h, hb]; rfl
theorem kq_other {kc : K3} {b : Bool} (h : kc = if b then K3.other else K3.fault) (hb : b = true) : kindOk kc (Str.ofString "qname") := by
  rw [h, hb]; exact ⟨by decide +kernel, by decide +kernel⟩
theorem ks_kind {kc : K3} {b : Bool} {x : Str} (h : kc = if b then K3.fin else K3.other) (hx : x = if b then Str.ofString "end" else Str.ofString "name") : kindOk kc x := by
  cases b with
  | true => rw [h, hx]; rfl
  | false => rw [h, hx]; exact ⟨by decide +kernel, by decide +kernel⟩
section
variable {w : World} {mean : ExcName → Option Value} {mg mb : Str → Option Value} {news : List (Addr × Obj)} {news' : Tok → List (Addr × Obj)} {t d l : Addr} {its : List Value} {n : Nat} {codes : List Int} {at1 o : Int} {k1 k2 k3 ta to' : Tok}
theorem c_next {T9 Tn : Int} {kc : K3} (hC : Good codes) (hI : IntsAre its codes) (ht : (t, instObj 258 d) ∈ news) (hdt : (d, tokD w l at1 o k1 k2 k3 ta to') ∈ news) (hl : (l, listOf its.toArray n) ∈ news) (h0 : 0 ≤ at1) (o1 : t ≠ d) (o2 : l ≠ d) (hlay : LayInv codes T9 at1) (hT0 : 0 ≤ T9) (hTok : TokIs codes T9 kc Tn) :
    ClaimE w mean mg mb 32 news 164 [.ref t] (fun h₀ L m s Q E l9 => (∀ t2, Upd d (tokD w l at1 o k1 k2 k3 ta to') (tokD w l Tn o k1 k2 k3 t2 to') news (news' t2)) ∧
      (∀ (r : Addr) (x : Str) (tx : Tok) (v2 v3 : Value) (h' : Heap) (tk' : Nat) (t2 : Tok), kindOk kc x → Fr h₀ L h' m → News h₀ L h' ((r, tup3 (.str x tx) v2 v3) :: news' t2) → Q (.ref r) { s with heap := h', toks := tk' }) ∧
      (kc = .fault → Throws w Tn d l o k1 k2 k3 to' l9 s E)) := by
  (unfold ClaimE; k_fill; w_top off)
  intro dp un gd cn cs a ccd cl outer A₀ base h₀ L m s Q E B F X N T hk hd hu ⟨hU, hret, hthrow⟩
  k_with_none
  k_with "call ref" => (k_here; (with_reducible show wpAny _ _ (call (Value.ref 60) _) _ _ _); k_dflt (refine' c_is_digit _ _ _ _ _ _ _ _ _ _ _ _ _ _ _ _ _ _ _ ?k1 ?k2 ?k3 ?k4 ?k5 ?k6 ?k7 ?k8 ?_; (case k4 => k_asm); (case k1 => k_asm); (case k2 => k_asm); (case k3 => k_asm); (case k5 => k_asm); (case k6 => first | exact rfl | assumption); (case k7 => ktr_room); (case k8 => ktr_units)); intro _ _ _ _ _; (try dsimp only); (try k_sweep))
  k_with "call ref" => (k_here; (with_reducible show wpAny _ _ (call (Value.ref 67) _) _ _ _); k_dflt (refine' c_is_small _ _ _ _ _ _ _ _ _ _ _ _ _ _ _ _ _ _ _ ?k1 ?k2 ?k3 ?k4 ?k5 ?k6 ?k7 ?k8 ?_; (case k4 => k_asm); (case k1 => k_asm); (case k2 => k_asm); (case k3 => k_asm); (case k5 => k_asm); (case k6 => first | exact rfl | assumption); (case k7 => ktr_room); (case k8 => ktr_units)); intro _ _ _ _ _; (try dsimp only); (try k_sweep))
  k_with "call ref" => (k_here; (with_reducible show wpAny _ _ (call (Value.ref 74) _) _ _ _); k_dflt (refine' c_is_capital _ _ _ _ _ _ _ _ _ _ _ _ _ _ _ _ _ _ _ ?k1 ?k2 ?k3 ?k4 ?k5 ?k6 ?k7 ?k8 ?_; (case k4 => k_asm); (case k1 => k_asm); (case k2 => k_asm); (case k3 => k_asm); (case k5 => k_asm); (case k6 => first | exact rfl | assumption); (case k7 => ktr_room); (case k8 => ktr_units)); intro _ _ _ _ _; (try dsimp only); (try k_sweep))
  k_with "call ref" => (k_here; (with_reducible show wpAny _ _ (call (Value.ref 143) _) _ _ _); k_dflt (refine' c_code_at ?hC ?hI ?ht ?hdt ?hl _ _ ?hi _ _ _ _ _ _ _ _ _ _ _ _ _ _ _ _ _ ?k1 ?k2 ?k3 ?k4 ?k5 ?k6 ?k7 ?k8 ?_; (case k4 => k_asm); (case k1 => k_asm); (case k2 => k_asm); (case k3 => k_asm); (case k5 => k_asm); (case k6 => first | exact rfl | assumption); (case k7 => ktr_room); (case k8 => ktr_units); (case hC => assumption); (case hI => assumption); (case ht => k_mem); (case hdt => k_mem); (case hl => k_mem); (case hi => omega)); intro _ _ _ _ _; (try dsimp only); (try k_sweep))
  k_with "call ref" => (k_here; (with_reducible show wpAny _ _ (call (Value.ref 143) _) _ _ _); k_dflt (refine' c_code_at_v ?hv ?hC ?hI ?ht ?hdt ?hl _ ?hi _ _ _ _ _ _ _ _ _ _ _ _ _ _ _ _ _ ?k1 ?k2 ?k3 ?k4 ?k5 ?k6 ?k7 ?k8 ?_; (case k4 => k_asm); (case k1 => k_asm); (case k2 => k_asm); (case k3 => k_asm); (case k5 => k_asm); (case k6 => first | exact rfl | assumption); (case k7 => ktr_room); (case k8 => ktr_units); (case hC => assumption); (case hv => with_reducible assumption); (case hI => assumption); (case ht => k_mem); (case hdt => k_mem); (case hl => k_mem); (case hi => omega)); intro _ _ _ _ _; (try dsimp only); (try k_sweep))
  k_with "call ref" => (k_here; (with_reducible show wpAny _ _ (call (Value.ref 88) _) _ _ _); k_dflt (refine' c_is_symbol _ _ _ _ _ _ _ _ _ _ _ _ _ _ _ _ _ _ _ ?k1 ?k2 ?k3 ?k4 ?k5 ?k6 ?k7 ?k8 ?_; (case k4 => k_asm); (case k1 => k_asm); (case k2 => k_asm); (case k3 => k_asm); (case k5 => k_asm); (case k6 => first | exact rfl | assumption); (case k7 => ktr_room); (case k8 => ktr_units)); intro _ _ _ _ _; (try dsimp only); (try k_sweep))
  k_with "call ref" => (k_here; (with_reducible show wpAny _ _ (call (Value.ref 107) _) _ _ _); k_dflt (refine' c_codes_text ?hc ?hI ?hr ?hz _ _ _ _ _ _ _ _ _ _ _ _ _ _ _ _ _ ?k1 ?k2 ?k3 ?k4 ?k5 ?k6 ?k7 ?k8 ?_; (case k4 => k_asm); (case k1 => k_asm); (case k2 => k_asm); (case k3 => k_asm); (case k5 => k_asm); (case k6 => first | exact rfl | assumption); (case k7 => ktr_room); (case k8 => ktr_units); (case hc => k_mem); (case hI => assumption); (case hr => first | exact good_slice (by assumption) | assumption); (case hz => first | exact good_len (by assumption) | assumption)); intro _ _ _ _ _ _; (try dsimp only); (try k_sweep))
  k_with "call ref" => (k_here; (with_reducible show wpAny _ _ (call (Value.ref 199) _) _ _ _); k_dflt (refine' c_word ?hC ?hI ?ht ?hdt ?hl ?h0 ?o1 ?o2 _ ?hin _ _ _ _ _ _ _ _ _ _ _ _ _ _ _ _ _ ?k1 ?k2 ?k3 ?k4 ?k5 ?k6 ?k7 ?k8 ⟨?kU, ?_⟩; (case k4 => k_asm); (case k1 => k_asm); (case k2 => k_asm); (case k3 => k_asm); (case k5 => k_asm); (case k6 => first | exact rfl | assumption); (case k7 => ktr_room); (case k8 => ktr_units); (case hC => assumption); (case hI => assumption); (case ht => k_mem); (case hdt => k_mem); (case hl => k_mem); (case h0 => omega); (case o1 => k_ne); (case o2 => k_ne); (case hin => omega); (case kU => (intro t2; k_upd))); intro _ _ _ _ _ _ _; (try dsimp only); (try k_sweep))
  k_with "call ref" => (k_here; (with_reducible show wpAny _ _ (call (Value.ref 206) _) _ _ _); k_dflt (refine' c_symbol ?hC ?hI ?ht ?hdt ?hl ?h0 ?o1 ?o2 _ ?hin _ _ _ _ _ _ _ _ _ _ _ _ _ _ _ _ _ ?k1 ?k2 ?k3 ?k4 ?k5 ?k6 ?k7 ?k8 ⟨?kU, ?_⟩; (case k4 => k_asm); (case k1 => k_asm); (case k2 => k_asm); (case k3 => k_asm); (case k5 => k_asm); (case k6 => first | exact rfl | assumption); (case k7 => ktr_room); (case k8 => ktr_units); (case hC => assumption); (case hI => assumption); (case ht => k_mem); (case hdt => k_mem); (case hl => k_mem); (case h0 => omega); (case o1 => k_ne); (case o2 => k_ne); (case hin => omega); (case kU => (intro t2; k_upd))); intro _ _ _ _ _ _ _ _ _ _ _; (try dsimp only); (try k_sweep))
  k_with "call ref" => (k_here; (with_reducible show wpAny _ _ (call (Value.ref 157) _) _ _ _); k_dflt (refine' c_fault ?hC ?hI ?ht ?hdt ?hl ?o1 ?o2 _ _ _ ?h9 _ _ _ _ _ _ _ _ _ _ _ _ _ _ _ _ _ ?k1 ?k2 ?k3 ?k4 ?k5 ?k6 ?k7 ?k8 ?_; (case k4 => k_asm); (case k1 => k_asm); (case k2 => k_asm); (case k3 => k_asm); (case k5 => k_asm); (case k6 => first | exact rfl | assumption); (case k7 => ktr_room); (case k8 => ktr_units); (case hC => assumption); (case hI => assumption); (case ht => k_mem); (case hdt => k_mem); (case hl => k_mem); (case o1 => k_ne); (case o2 => k_ne); (case h9 => omega)); intro _ _ _ _ _ _ _; (try dsimp only); (try k_sweep))
  k_with "call ref" => (k_here; (with_reducible show wpAny _ _ (call (Value.ref 241) _) _ _ _); k_dflt (refine' c_quoted34 ?hC ?hI ?ht ?hdt ?hl ?h0 ?o1 ?o2 _ _ ?hq _ _ _ _ _ _ _ _ _ _ _ _ _ _ _ _ _ ?k1 ?k2 ?k3 ?k4 ?k5 ?k6 ?k7 ?k8 ⟨?kU, ?_⟩; (case k4 => k_asm); (case k1 => k_asm); (case k2 => k_asm); (case k3 => k_asm); (case k5 => k_asm); (case k6 => first | exact rfl | assumption); (case k7 => ktr_room); (case k8 => ktr_units); (case hC => assumption); (case hI => assumption); (case ht => k_mem); (case hdt => k_mem); (case hl => k_mem); (case h0 => omega); (case o1 => k_ne); (case o2 => k_ne); (case hq => assumption); (case kU => (intro t2; k_upd))); intro _ _ _ _ _ _ _ _ _ _ _ _; (try dsimp only); (try k_sweep))
  k_with "call ref" => (k_here; (with_reducible show wpAny _ _ (call (Value.ref 178) _) _ _ _); k_dflt (refine' c_skip_layout ?hC ?hI ?ht ?hdt ?hl ?h0 ?o1 ?o2 ?hlay _ _ _ _ _ _ _ _ _ _ _ _ _ _ _ _ _ ?k1 ?k2 ?k3 ?k4 ?k5 ?k6 ?k7 ?k8 ⟨?kU, ?_⟩; (case k4 => k_asm); (case k1 => k_asm); (case k2 => k_asm); (case k3 => k_asm); (case k5 => k_asm); (case k6 => first | exact rfl | assumption); (case k7 => ktr_room); (case k8 => ktr_units); (case hC => assumption); (case hI => assumption); (case ht => k_mem); (case hdt => k_mem); (case hl => k_mem); (case h0 => omega); (case o1 => k_ne); (case o2 => k_ne); (case hlay => assumption); (case kU => (intro t2; k_upd))); intro _ _ _ _ _ _ _; (try dsimp only); (try k_sweep))
  k_with "call ref" => (k_here; (with_reducible show wpAny _ _ (call (Value.ref 220) _) _ _ _); k_dflt (refine' c_numeral ?hC ?hI ?ht ?hdt ?hl ?h0 ?o1 ?o2 _ ?hd1 ?hd2 _ _ _ _ _ _ _ _ _ _ _ _ _ _ _ _ _ ?k1 ?k2 ?k3 ?k4 ?k5 ?k6 ?k7 ?k8 ⟨?kU, ?_, ?_⟩; (case k4 => k_asm); (case k1 => k_asm); (case k2 => k_asm); (case k3 => k_asm); (case k5 => k_asm); (case k6 => first | exact rfl | assumption); (case k7 => ktr_room); (case k8 => ktr_units); (case hC => assumption); (case hI => assumption); (case ht => k_mem); (case hdt => k_mem); (case hl => k_mem); (case h0 => omega); (case o1 => k_ne); (case o2 => k_ne); (case hd1 => assumption); (case hd2 => assumption); (case kU => (intro t2; k_upd))); rotate_left; (intro _ _ _ _ _ _; (try dsimp only)); rotate_right; (intro _ _ _ _ _ _ _ _ _ _ _ _; (try dsimp only); (try k_sweep)))
  k_with "call ref" => (k_here; (with_reducible show wpAny _ _ (call (Value.ref 241) _) _ _ _); k_dflt (refine' c_quoted39 ?hC ?hI ?ht ?hdt ?hl ?h0 ?o1 ?o2 _ _ ?hq _ _ _ _ _ _ _ _ _ _ _ _ _ _ _ _ _ ?k1 ?k2 ?k3 ?k4 ?k5 ?k6 ?k7 ?k8 ⟨?kU, ?_, ?_⟩; (case k4 => k_asm); (case k1 => k_asm); (case k2 => k_asm); (case k3 => k_asm); (case k5 => k_asm); (case k6 => first | exact rfl | assumption); (case k7 => ktr_room); (case k8 => ktr_units); (case hC => assumption); (case hI => assumption); (case ht => k_mem); (case hdt => k_mem); (case hl => k_mem); (case h0 => omega); (case o1 => k_ne); (case o2 => k_ne); (case hq => assumption); (case kU => (intro t2; k_upd))); rotate_left; (intro _ _ _ _ _ _; (try dsimp only)); rotate_right; (intro _ _ _ _ _ _ _ _ _ _ _ _ _; (try dsimp only); (try k_sweep)))
  have N3 : News h₀ L s.heap [(t, instObj 258 d), (d, tokD w l at1 o k1 k2 k3 ta to'), (l, listOf its.toArray n)] := cb_drop N (by simp only [List.forall_mem_cons, List.not_mem_nil, false_implies, implies_true, and_true]; exact ⟨ht, hdt, hl⟩)
  have hz := hC.size
  have o1' := neN o1
  have o2' := neN o2
  refine wpAny_call ?_
  k_dflt (refine' enter3 ?k1 ?k2 ?k3 ?k4 ?k5 ?kA ?kF ?kK ?k6 ?k7 ?k8 ?k9 ?kB ?_ ?c2 ?c3 ?c4 ?c5; (case kA => exact rfl); (case kF => exact rfl); (case kK => first | exact rfl | assumption); (case k1 => k_asm); (case k2 => k_asm); (case k3 => k_asm); (case k4 => exact N3); (case k5 => k_asm); (case k6 => k_is); (case k7 => k_is); (case k8 => ktr_room); (case k9 => first | exact BindsTo.of_eq rfl | exact binds_K (by k_in) rfl (by k_is) rfl rfl rfl); (case c5 => decide); (case kB => exact locs rfl); (case c2 => exact rfl); (case c3 => exact rfl); (case c4 => exact rfl); k_whole; intro g' L' h' hg FG' F' N' B' X' T'; (try dsimp only); (try k_lift B'); (try k_fold))
  (rename News _ _ _ _ => N8); dsimp only [tokD] at N8
  iterate 60 (first | ((fail_if_success (with_reducible show wpAny _ _ (exec (Stmt.If _ _ _ _) _) _ _ _)); first | (k_unfold; (try dsimp only)) | walk1 | (dsimp only; walk1)) | skip)
  cases hTok
  all_goals k_steps
  all_goals first
    | (refine' movesT_end (Q := Q) hret hU F N ht hl hg ?F' ?kF ?kN ?h0 ?h1 ?h2 ?h3 ?e ?hV; (case F' => k_asm); (case kF => k_asm); (case kN => k_asm); (case h0 => k_mem); (case h1 => k_mem); (case h2 => k_mem); (case h3 => k_mem); (case e => first | rfl | omega); (case hV => first | rfl | exact ⟨by decide +kernel, by decide +kernel⟩ | exact kn_other (by assumption) (by assumption) (by assumption) | exact kq_other (by assumption) (by assumption) | exact ks_kind (by assumption) (by assumption)))
    | (refine' leave_on B' ?F' ?kN hg F N ht hl o1 o2 ?h1 ?h3 ?hT ?_; (case hT => assumption); (case F' => k_asm); (case kN => k_asm); (case h1 => k_mem); (case h3 => k_mem); intro h9 hT9; exact hthrow (by first | exact kn_fault (by assumption) (by assumption) | exact kq_fault (by assumption) (by assumption)) _ _ _ _ hT9)
    | (refine' leave_first B' ?F' ?kN hg F N ht hl ?he ?h1 ?h2 ?h3 ?c1 ?c2 ?c3 ?_; (case F' => k_asm); (case kN => k_asm); (case he => k_mem); (case h1 => k_mem); (case h2 => k_mem); (case h3 => k_mem); (case c1 => (intro q; cases q)); (case c2 => (intro q; cases q)); (case c3 => (intro q; cases q)); intro h9 hT9; exact hthrow rfl _ _ _ _ hT9)
end


section
variable {prog : Program} {w : World} {A A₀ : Around} {E : Value → Shared → Prop} {s s' : Shared} {base g h₁ h₀ : Heap} {l outer : List Env} {env : Env} {L L' a e d : Addr} {m : Str → Option Value} {name : Str} {scope : Scope} {cd : Value} {Q : Flow → Shared → Prop} {nn news : List (Addr × Obj)} {KF : Frag} {p : Program} {loose : List Str} {mean : ExcName → Option Value} {mg mb : Str → Option Value}
  {n x : Str} {b₀ : Stmt} {suite : List Stmt} {pos np : Pos} {rest : List ExceptHandler} {od od0 : Obj}
theorem caught (K : Below A base l g) (XB : KF.In base) (TB : Top p loose mean mg mb base) (F' : Fr g L' h₁ m) (kN : News g L' h₁ nn) (hd' : (d, od0) ∈ nn) (hT : Thrown (envOf name scope L' a cd :: l) h₁ d od e s'.heap)
    (ex : nsIn KF mainGlobals x = some (some (.ref 44))) (q : ktsIn KF 44 "BaseException" = true)
    (k : ∀ h' g', KtsTurn (l.filterMap (·.frame)) g g' → Fr g' L' h' m → (∀ b o, h₁.get? b = some o → b ≠ d → b ≠ L' → b ∉ l.filterMap (·.frame) → h'.get? b = some o) → h'.get? d = some od → Below A base l g' → KF.In g' → Top p loose mean mg mb g' →
      wpAny (model prog w) ((A.deeper (envOf name scope L' a cd)).mark (some (.ref e))) (execs (b₀ :: suite) (envOf name scope L' a cd)) Q E { s' with heap := h' })
    (hk : scope.kind = .function := by rfl) (hx : (envOf name scope L' a cd).kindOf x = some .globalImplicit := by rfl) (hd : (x == ("__debug__" : Str)) = false := by decide)
    (hE : PassesOwnAt (model prog w) ((A.deeper (envOf name scope L' a cd)).mark (some (.ref e))) (A.deeper (envOf name scope L' a cd)) (envOf name scope L' a cd) E := by passes_own) :
    wpAny (model prog w) (A.deeper (envOf name scope L' a cd)) (noteFrame (.ref e) (envOf name scope L' a cd))
      (fun _ s₂ => wpAny (model prog w) (A.deeper (envOf name scope L' a cd)) (setFlight (.ref e) none) (fun _ s₃ =>
        wpAny (model prog w) (A.deeper (envOf name scope L' a cd)) (handleBy (.ref e) (envOf name scope L' a cd) (.ExceptHandler (some (.Name x np)) none (b₀ :: suite) pos :: rest)) Q E s₃) E s₂) E s' := by
  obtain ⟨B, a0, hfl, hk9, hdB, hup⟩ := hT
  have gd : g.get? d = none := (kN _ hd').2.2
  have dL : d ≠ L' := (kN _ hd').2.1
  have hid : ∀ b o, (hideAll h₁ [d]).get? b = some o → h₁.get? b = some o ∧ b ≠ d := fun b o e9 => ⟨of_hideAll _ e9, fun z => by rw [z, hideAll_none _ (.head _)] at e9; cases e9⟩
  obtain ⟨oL, es, ep, hL, hLd, hLk, hLf⟩ := F'.ns
  have FG : Fr g L' (hideAll h₁ [d]) m := ⟨⟨oL, es, ep, hideAll_get _ hL (fun z => dL (List.mem_singleton.mp z).symm), hLd, hLk, hLf⟩, fun b o e9 => hideAll_get _ (F'.keep b o e9) (fun z => by rw [List.mem_singleton.mp z, gd] at e9; cases e9), F'.above⟩
  have hBG : ∀ b o, (hideAll h₁ [d]).get? b = some o → b ∉ (envOf name scope L' a cd :: l).filterMap (·.frame) → B.get? b = some o := fun b o e9 nm => hk9 b o (hid b o e9).1 (hid b o e9).2 nm
  have hsm : (hideAll h₁ [d]).UpToSlots s'.heap := fun b o e9 hnf => hup b o (hid b o e9).1 (hid b o e9).2 hnf
  refine wpAny_looks_onW (Around.frames_deeper K.stack) rfl hfl fun h₄ hheld₄ hsm₄ => ?_
  refine wpAny_landsW hheld₄ fun h₅ hheld hsm₅' => ?_
  have hsm₅ := hsm₄.trans hsm₅'
  obtain ⟨g₅, T₅, F₅, K₅⟩ := kts_ground K FG hBG hheld.1 (hsm.trans hsm₅)
  have X₅ : KF.In g₅ := XB.keeps K₅.stays
  have P₅ : TopRead p loose mg mb g₅ := topRead_of (TB.keeps K₅.stays)
  obtain ⟨ob, hob, hobc⟩ := hheld.there
  obtain ⟨nm, q', N, bs, bm, hdct, sn, sub, ab, col, dd, k0, k1, k2, k3, k5, newId, hC, hbase, hbT⟩ := kts_cls X₅ q
  have hC₅ := F₅.keep _ _ hC
  refine wpAny_handleBy_cons (codeAny_handlers_test (name_K F₅ X₅ P₅ ex ?_ hk hx hd)) (by intro q; cases q)
  refine wpAny_excMatches_sub_self hC₅ hob hobc hbase (codeAny_handlers_suite ?_)
  refine lands_againW hheld fun h₆ hfl₆ hsm₆ => ?_
  obtain ⟨g₆, T₆, F₆, K₆⟩ := kts_ground K FG hBG hfl₆.1 ((hsm.trans hsm₅).trans hsm₆)
  exact wpAny_passesOwnAt hE (k h₆ g₆ T₆ F₆ (fun b o hb q1 q2 q3 => hfl₆.1 b o (hk9 b o hb q1 fun hm => by
    rcases kts_mem hm with z | z
    · exact q2 z
    · exact q3 z)) (hfl₆.1 d od hdB) K₆ (XB.keeps K₆.stays) (TB.keeps K₆.stays))

def WhileStepG (s : Shared) (J : Nat → Heap → Prop) (Q : Flow → Shared → Prop) (n : Nat) (f : Flow) (s₃ : Shared) : Prop :=
  match f with
  | .next | .cont => ∃ h' tk n', s₃ = { s with heap := h', toks := tk } ∧ n' < n ∧ J n' h'
  | .brk => Q .next s₃
  | .ret v => Q (.ret v) s₃
theorem While_invG {test : Expr} {body : List Stmt} {pos : Pos} (J : Nat → Heap → Prop) {n₀ : Nat} (hJ : J n₀ s.heap)
    (turn : ∀ n h₁ tk₁, J n h₁ →
      wpAny (model prog w) A (isTrue test env (eval test env)) (fun b s₂ =>
        if b = true then wpAny (model prog w) A (execs body env) (WhileStepG s J Q n) E s₂ else Q .next s₂) E { s with heap := h₁, toks := tk₁ })
    (hE : PassesOwn (model prog w) A env E := by passes_own) :
    wpAny (model prog w) A (exec (.While test body [] pos) env) Q E s := by
  refine wpAny_While (codeAny_whileLoop (fun n s' => ∃ h₁ tk₁, s' = { s with heap := h₁, toks := tk₁ } ∧ J n h₁) ?_ n₀ ⟨s.heap, s.toks, rfl, hJ⟩)
  rintro n s' ⟨h₁, tk₁, rfl, J₁⟩
  refine wpAny_mono (turn n h₁ tk₁ J₁) (fun b s₂ h₂ => ?_) hE
  cases b with
  | false =>
    simp only [Bool.false_eq_true, if_false] at h₂ ⊢
    exact wpAny_execs_nil h₂
  | true =>
    simp only [if_true] at h₂ ⊢
    refine wpAny_mono h₂ (fun f s₃ h₃ => ?_) hE
    cases f with
    | next =>
      obtain ⟨h', tk, n', rfl, hn, J₂⟩ := h₃
      exact ⟨n', hn, h', tk, rfl, J₂⟩
    | cont =>
      obtain ⟨h', tk, n', rfl, hn, J₂⟩ := h₃
      exact ⟨n', hn, h', tk, rfl, J₂⟩
    | brk => exact h₃
    | ret v => exact h₃

/-- out of a def whose ground the tries have turned -/
def LeaveG (L : Addr) (h₀ : Heap) (m : Str → Option Value) (g : Heap) (R : Result → Shared → Prop) (v : Value) (s' : Shared) : Prop :=
  ∃ g' L' m', KtsTurn [L] g g' ∧ Fr g' L' s'.heap m' ∧ (Fr h₀ L s'.heap m → R (.ok (.ret v)) s')
theorem enterG {K : Frag} {R : Result → Shared → Prop} {nm qual : Str} {params : Arguments} {body : List Stmt} {sc : Scope} {dV kV doc pm cdv ct oc : Value} {an odx : Option Addr} {osl : Array (Option Value)} {f : Addr} {args : Args} {binds : List (Str × Value)}
    (B : Below A₀ base [] h₀) (F : Fr h₀ L s.heap m) (X₀ : K.In h₀) (N : News h₀ L s.heap news) (T : Top p loose mean mg mb h₀) (hA : A.frames = some [env]) (hf : env.frame = some L) (hke : env.scope.kind = .function)
    (ho : K.lookup f = some ⟨oc, odx, .func (fnOf nm qual params body sc dV kV doc pm an cdv ct), osl⟩) (hcd : codeIn K cdv qual = true) (hroom : A.depth < recursionLimit)
    (hbind : BindsTo s (fnOf nm qual params body sc dV kV doc pm an cdv ct) args binds) (hloc : ∀ y ∈ binds, sc.names.lookup y.1 = some .local)
    (h : ∀ g L' h₁, Rest s.heap (news.map (·.1)) g → g.get? L = s.heap.get? L → Fr g L' h₁ (fun y => binds.reverse.lookup y) → News g L' h₁ news → Below A base [env] g → K.In g → Top p loose mean mg mb g →
      wpAny (model prog w) (A.deeper (envOf qual sc L' f cdv)) (execs body (envOf qual sc L' f cdv))
        (fun fl s' => LeaveG L h₀ m g R (match fl with | .ret v => v | _ => .none) s')
        (fun e s' => wpAny (model prog w) (A.deeper (envOf qual sc L' f cdv)) (leaving (envOf qual sc L' f cdv) e) (fun _ s'' => R (.error e) s'') (fun e' s'' => R (.error e') s'') s')
        { s with heap := h₁, toks := s.toks + binds.length })
    (hco : sc.isCoroutine = false) (hgen : sc.isGenerator = false) (hk : sc.kind = .function)
    (hcell : ∀ x ∈ sc.names, x.2 ≠ .cell) : codeAny (model prog w) A (.call (.ref f) args) R s := by
  obtain ⟨FG, BG, st, _⟩ := groundX (R := R) B F N hA hf hke
  obtain ⟨oL, es, ep, hL, hLd, hLk, hLf⟩ := F.ns
  have nL : L ∉ news.map (·.1) := fun q => by
    obtain ⟨p, hp, e⟩ := List.mem_map.mp q
    exact (N p hp).2.1 e
  have hLg := hideAll_get (news.map (·.1)) hL nL
  have nL₀ : h₀.get? L = none := kts_self F
  refine codeAny_call_def (fd := fnOf nm qual params body sc dV kV doc pm an cdv ct) (body := body) (binds := binds) hroom ((X₀.keeps F.keep) _ _ ho) rfl (T.nolimit.keeps F.keep) (codeRec_of (X₀.keeps F.keep) hcd) rfl hbind hcell hloc (fun h₁ hns hk₁ => ?_) hco hgen hk
  refine wpAny_mono (h _ s.heap.objs.size h₁ (fun b o e hn => hideAll_get _ e hn) (hLg.trans hL.symm) ⟨hns, fun b o e => hk₁ b o (of_hideAll _ e), Nat.le_of_eq (hideAll_size _ _)⟩
    (fun p hp => ⟨hk₁ _ _ (N p hp).1, Nat.ne_of_lt (Heap.lt_size (N p hp).1), hideAll_none _ (List.mem_map_of_mem hp)⟩) BG (X₀.keeps st) (T.keeps st)) (fun fl s' hl => ?_) fun _ _ y => y
  obtain ⟨g', L', m', T', F', k⟩ := hl
  obtain ⟨sl, hs⟩ := T'.up hLg
  exact k ⟨⟨_, es, ep, F'.keep _ _ hs, hLd, hLk, hLf⟩, fun b o e => F'.keep b o (T'.other b o (st b o e) (fun q => by rw [List.mem_singleton.mp q, nL₀] at e; cases e)), F.above⟩
theorem caught3 {t lx : Addr} {ot ol : Obj} (K : Below A base l g) (XB : KF.In base) (TB : Top p loose mean mg mb base) (F' : Fr g L' h₁ m) (kN : News g L' h₁ nn) (ht' : (t, ot) ∈ nn) (hd' : (d, od0) ∈ nn) (hl' : (lx, ol) ∈ nn) (o1 : t ≠ d) (o2 : lx ≠ d) (hT : Thrown (envOf name scope L' a cd :: l) h₁ d od e s'.heap)
    (ex : nsIn KF mainGlobals x = some (some (.ref 44))) (q : ktsIn KF 44 "BaseException" = true)
    (k : ∀ h' g', KtsTurn (l.filterMap (·.frame)) g g' → Fr g' L' h' m → News g' L' h' [(t, ot), (d, od), (lx, ol)] → Below A base l g' → KF.In g' → Top p loose mean mg mb g' →
      wpAny (model prog w) ((A.deeper (envOf name scope L' a cd)).mark (some (.ref e))) (execs (b₀ :: suite) (envOf name scope L' a cd)) Q E { s' with heap := h' })
    (hk : scope.kind = .function := by rfl) (hx : (envOf name scope L' a cd).kindOf x = some .globalImplicit := by rfl) (hd : (x == ("__debug__" : Str)) = false := by decide)
    (hE : PassesOwnAt (model prog w) ((A.deeper (envOf name scope L' a cd)).mark (some (.ref e))) (A.deeper (envOf name scope L' a cd)) (envOf name scope L' a cd) E := by passes_own) :
    wpAny (model prog w) (A.deeper (envOf name scope L' a cd)) (noteFrame (.ref e) (envOf name scope L' a cd))
      (fun _ s₂ => wpAny (model prog w) (A.deeper (envOf name scope L' a cd)) (setFlight (.ref e) none) (fun _ s₃ =>
        wpAny (model prog w) (A.deeper (envOf name scope L' a cd)) (handleBy (.ref e) (envOf name scope L' a cd) (.ExceptHandler (some (.Name x np)) none (b₀ :: suite) pos :: rest)) Q E s₃) E s₂) E s' := by
  refine caught K XB TB F' kN hd' hT ex q (fun h' g' T9 F9 k9 hd9 B9 X9 P9 => k h' g' T9 F9 (fun p hp => ?_) B9 X9 P9) hk hx hd hE
  have old : ∀ b o, (b, o) ∈ nn → b ≠ d → h'.get? b = some o ∧ b ≠ L' ∧ g'.get? b = none := fun b o hb hbd =>
    ⟨k9 b o (kN _ hb).1 hbd (kN _ hb).2.1 (frame_not (o := o) K (kN _ hb).2.2), (kN _ hb).2.1, T9.none_ _ (kN _ hb).2.2⟩
  rcases List.mem_cons.mp hp with rfl | hp
  · exact old t ot ht' o1
  rcases List.mem_cons.mp hp with rfl | hp
  · exact ⟨hd9, (kN _ hd').2.1, T9.none_ _ (kN _ hd').2.2⟩
  rcases List.mem_cons.mp hp with rfl | hp
  · exact old lx ol hl' o2
  · cases hp
theorem back3G {h h' g g' : Heap} {L9 : Addr} {m' : Str → Option Value} {news' nn : List (Addr × Obj)} {t lx : Addr} {ot od' ol : Obj}
    (hg : Rest h [t, d, lx] g) (T : KtsTurn [L] g g') (F' : Fr g' L9 h' m') (N : News h₀ L h news) (U : Upd d od od' news news') (ht : (t, ot) ∈ news) (hl : (lx, ol) ∈ news)
    (h1 : h'.get? t = some ot) (h2 : h'.get? d = some od') (h3 : h'.get? lx = some ol) : News h₀ L h' news' := by
  obtain ⟨pre, post, rfl, rfl, hp, hq⟩ := U.split
  have key : ∀ p ∈ pre ++ (d, od) :: post, p.1 ≠ d → h'.get? p.1 = some p.2 := fun p hp' hn => by
    have e := (N p hp').1
    by_cases q1 : p.1 = t
    · rw [q1] at e ⊢; rw [h1, ← e, (N _ ht).1]
    by_cases q2 : p.1 = lx
    · rw [q2] at e ⊢; rw [h3, ← e, (N _ hl).1]
    exact F'.keep _ _ (T.other _ _ (hg _ _ e (by simp only [List.mem_cons, List.not_mem_nil, or_false, not_or]; exact ⟨q1, hn, q2⟩)) (fun q => (N p hp').2.1 (List.mem_singleton.mp q)))
  intro p hp'
  rcases List.mem_append.mp hp' with q | q
  · have P := N p (List.mem_append_left _ q); exact ⟨key p (List.mem_append_left _ q) (hp p q), P.2⟩
  · rcases List.mem_cons.mp q with rfl | q
    · have P := N (d, od) (by simp); exact ⟨h2, P.2⟩
    · have P := N p (List.mem_append_right _ (.tail _ q)); exact ⟨key p (List.mem_append_right _ (.tail _ q)) (hq p q), P.2⟩
end


theorem k3_fin (h : K3.fin = .fault) : False := nomatch h
theorem k3_eof (h : K3.eof = .fault) : False := nomatch h
theorem k3_other (h : K3.other = .fault) : False := nomatch h
theorem kind_fin {x : Str} (h : kindOk .fin x) : x = Str.ofString "end" := h
theorem kind_eof {x : Str} (h : kindOk .eof x) : x = Str.ofString "eof" := h
theorem kind_fault {x : Str} (h : kindOk .fault x) : False := h
theorem kind_other {x : Str} (h : kindOk .other x) : (x == Str.ofString "end") = false ∧ (x == Str.ofString "eof") = false := h
inductive Clause (codes : List Int) : Int → Int → Prop
  | stop {a T Tn : Int} {kc : K3} : LayInv codes T a → 0 ≤ T → TokIs codes T kc Tn → (kc = .fin ∨ kc = .eof) → Clause codes a Tn
  | go {a T Tn Tf : Int} {kc : K3} : LayInv codes T a → 0 ≤ T → TokIs codes T kc Tn → (kc = .other ∨ kc = .fault) → a < Tn → Tn ≤ codes.length → Clause codes Tn Tf → Clause codes a Tf
local macro_rules | `(tactic| walk_at "noteFrame ref") => `(tactic| (k_here; k_dflt (refine' caught3 ?K ?XB ?TB ?F ?kN ?ht ?hd ?hl ?o1 ?o2 ?hT ?ex ?q ?_; (case hT => assumption); (case F => k_asm); (case K => k_asm); (case ex => k_is); (case XB => assumption); (case TB => assumption); (case kN => k_asm); (case ht => assumption); (case hd => assumption); (case hl => assumption); (case o1 => k_ne); (case o2 => k_ne); (case q => kernel_rfl)); intro h9 g9 T9 F9 N9 B9 X9 P9))
theorem leaveG_mk {L L' : Addr} {h₀ g g' : Heap} {m m' : Str → Option Value} {R : Result → Shared → Prop} {v : Value} {s' : Shared} (T : KtsTurn [L] g g') (F' : Fr g' L' s'.heap m') (k : Fr h₀ L s'.heap m → R (.ok (.ret v)) s') : LeaveG L h₀ m g R v s' := ⟨g', L', m', T, F', k⟩
theorem stepG_next {s s₃ : Shared} {J : Nat → Heap → Prop} {Q : Flow → Shared → Prop} {n n' tk : Nat} {h' : Heap} (e : s₃ = { s with heap := h', toks := tk }) (hl : n' < n) (j : J n' h') : WhileStepG s J Q n .next s₃ := ⟨h', tk, n', e, hl, j⟩
theorem kindF {g h : Heap} {L : Addr} {a b : Option Value} {rest : List (Str × Value)} (F : Fr g L h (fun y => if y = Str.ofString "kind" then a else if y = Str.ofString "kind" then b else List.lookup y rest)) :
    Fr g L h (fun y => if y = Str.ofString "kind" then a else List.lookup y rest) :=
  Eq.mp (congrArg (Fr g L h) (funext fun y => by by_cases hy : y = Str.ofString "kind" <;> simp only [hy, if_true, if_false])) F
section
variable {w : World} {mean : ExcName → Option Value} {mg mb : Str → Option Value} {news : List (Addr × Obj)} {news' : Tok → List (Addr × Obj)} {t d l : Addr} {its : List Value} {n : Nat} {codes : List Int} {at1 o : Int} {k1 k2 k3 ta to' : Tok}
theorem c_skip_clause {Tf : Int} (hC : Good codes) (hI : IntsAre its codes) (ht : (t, instObj 258 d) ∈ news) (hdt : (d, tokD w l at1 o k1 k2 k3 ta to') ∈ news) (hl : (l, listOf its.toArray n) ∈ news) (h0 : 0 ≤ at1) (o1 : t ≠ d) (o2 : l ≠ d) (hcl : Clause codes at1 Tf) :
    ∀ (dp un : Nat) (gd : Option (List Code)) (cn : Str) (cs : Scope) (a : Addr) (ccd : Value) (cl : List (Str × Addr)) (A₀ : Around) (base h₀ : Heap) (L : Addr) (m : Str → Option Value) (s : Shared) (Q E : Value → Shared → Prop),
    Below A₀ base [] h₀ → Fr h₀ L s.heap m → (hd.heap_39 w.params).In h₀ → News h₀ L s.heap news → Top hd.view_39 (looseW hd.view_39 []) mean mg mb h₀ → cs.kind = .function → dp + 36 < recursionLimit → un + 8 * 36 < cLine →
    (hd.heap_39 w.params).In base → Top hd.view_39 (looseW hd.view_39 []) mean mg mb base → Moves w (fun v => v = .none) Tf t d l its n at1 o k1 k2 k3 ta to' news news' h₀ L m s Q →
    wpAny (model PySem.Challenge.rw_rr0019_01.row.prog w) (ktrTop dp un gd cn cs L a ccd cl []) (call (.ref 171) [.ref t]) Q E s := by
  (k_fill; w_top off)
  intro dp un gd cn cs a ccd cl A₀ base h₀ L m s Q E B F X N T hk hd hu XB TB ⟨hU, hret⟩
  have N3 : News h₀ L s.heap [(t, instObj 258 d), (d, tokD w l at1 o k1 k2 k3 ta to'), (l, listOf its.toArray n)] := cb_drop N (by simp only [List.forall_mem_cons, List.not_mem_nil, false_implies, implies_true, and_true]; exact ⟨ht, hdt, hl⟩)
  have hz := hC.size
  have o1' := neN o1
  have o2' := neN o2
  k_with_none
  k_with "call ref" => (k_here; (with_reducible show wpAny _ _ (call (Value.ref 164) _) _ _ _); k_dflt (refine' c_next ?hC ?hI ?ht ?hdt ?hl ?h0 ?o1 ?o2 ?hlay ?hT0 ?hTok _ _ _ _ _ _ _ _ _ _ _ _ _ _ _ _ _ ?k1 ?k2 ?k3 ?k4 ?k5 ?k6 ?k7 ?k8 ⟨?kU, ?_, ?_⟩; (case k4 => k_asm); (case k1 => k_asm); (case k2 => k_asm); (case k3 => k_asm); (case k5 => k_asm); (case k6 => first | exact rfl | assumption); (case k7 => ktr_room); (case k8 => ktr_units); (case hC => assumption); (case hI => assumption); (case ht => k_mem); (case hdt => k_mem); (case hl => k_mem); (case h0 => omega); (case o1 => k_ne); (case o2 => k_ne); (case hlay => assumption); (case hT0 => assumption); (case hTok => assumption); (case kU => (intro t2; k_upd))); rotate_left; (intro z9; first | exact (k3_fin z9).elim | exact (k3_eof z9).elim | exact (k3_other z9).elim | (clear z9; (try unfold Throws); intro _ _ _ _ _; (try dsimp only))); rotate_right; (intro _ _ _ _ _ _ _ _ hv9 _ _; (try dsimp only); (try k_sweep); (first | exact (kind_fault hv9).elim | (have hv9' := kind_fin hv9; subst hv9') | (have hv9' := kind_eof hv9; subst hv9') | (obtain ⟨hv91, hv92⟩ := kind_other hv9))))
  refine wpAny_call ?_
  k_dflt (refine' enterG ?k1 ?k2 ?k3 ?k4 ?k5 ?kA ?kF ?kK ?k6 ?k7 ?k8 ?k9 ?kB ?_ ?c2 ?c3 ?c4 ?c5; (case kA => exact rfl); (case kF => exact rfl); (case kK => first | exact rfl | assumption); (case k1 => k_asm); (case k2 => k_asm); (case k3 => k_asm); (case k4 => exact N3); (case k5 => k_asm); (case k6 => k_is); (case k7 => k_is); (case k8 => ktr_room); (case k9 => first | exact BindsTo.of_eq rfl | exact binds_K (by k_in) rfl (by k_is) rfl rfl rfl); (case c5 => decide); (case kB => exact locs rfl); (case c2 => exact rfl); (case c3 => exact rfl); (case c4 => exact rfl); k_whole; intro g' L' h' hg hgL F' N' B' X' T'; (try dsimp only); (try k_lift B'); (try k_fold))
  iterate 2 (first | walk1 | (dsimp only; walk1))
  have key : ∀ (g : Heap) (h1 : Heap) (a1 : Int) (ta1 : Tok), KtsTurn [L] g' g → News g L' h1 [(t, instObj 258 d), (d, tokD w l a1 o k1 k2 k3 ta1 to'), (l, listOf its.toArray n)] → True := fun _ _ _ _ _ _ => trivial
  refine While_invG (J := fun n9 h9 => ∃ (g9 : Heap) (a9 : Int) (ta9 : Tok) (u9 : Option Value), KtsTurn [L] g' g9 ∧ Fr g9 L' h9 (fun y => if y = Str.ofString "kind" then u9 else List.lookup y [(Str.ofString "self", Value.ref t)]) ∧ News g9 L' h9 [(t, instObj 258 d), (d, tokD w l a9 o k1 k2 k3 ta9 to'), (l, listOf its.toArray n)] ∧ Below (ktrTop dp un gd cn cs L a ccd cl []) base [envX cn cs L a ccd cl] g9 ∧ (Mine.hd.heap_39 w.params).In g9 ∧ Top Mine.hd.view_39 (looseW Mine.hd.view_39 []) mean mg mb g9 ∧ 0 ≤ a9 ∧ Clause codes a9 Tf ∧ n9 = codes.length - a9.toNat) ⟨g', at1, ta, none, KtsTurn.refl, ?_, N', B', X', T', h0, hcl, rfl⟩ ?_
  · refine Eq.mp (congrArg (Fr g' L' h') (funext fun y => ?_)) F'
    by_cases hy : y = Str.ofString "kind"
    · subst hy; rfl
    · simp only [hy, if_false]; rfl
  clear F' N' B' X' T' key
  rintro n9 h9 tk9 ⟨g9, a9, ta9, u9, TT, F', N', B', X', T', h09, hcl9, rfl⟩
  cases hcl9 with
  | stop hl9 hT9 ht9 hk9 =>
    rcases hk9 with rfl | rfl
    all_goals (dsimp only [tokD] at N'; k_steps)
    all_goals
      rename Fr g9 _ _ _ => F9
      rename News g9 _ _ _ => N9
      dsimp only [WhileStepG, qk]
      refine' leaveG_mk (g' := g9) (L' := L') ?kT ?kF ?_; (case kT => exact TT); (case kF => exact F9)
      intro kF
      exact hret _ _ _ _ rfl kF (back3G (nn := []) hg TT F9 N (hU _) ht hl (N9 _ (.tail _ (.head _))).1 (N9 _ (.tail _ (.tail _ (.head _)))).1 (N9 _ (.tail _ (.tail _ (.tail _ (.head _))))).1)
  | go hl9 hT9 ht9 hk9 hlt hle hcl' =>
    rcases hk9 with rfl | rfl
    · dsimp only [tokD] at N'
      k_steps
      rename Fr g9 _ _ _ => F9
      rename News g9 _ _ _ => N9
      exact stepG_next (n' := codes.length - _) rfl (by have := Int.toNat_of_nonneg h09; omega) ⟨g9, _, _, _, TT, kindF F9, fun p hp => N9 p (.tail _ hp), B', X', T', by omega, hcl', rfl⟩
    · dsimp only [tokD] at N'
      k_steps
      rename_i e9' hx tkx t29x hTx
      refine caught3 B' XB TB F' N' (.head _) (.tail _ (.head _)) (.tail _ (.tail _ (.head _))) o1' o2' hTx (by k_is) (by kernel_rfl) ?_
      intro hy gy Ty Fy Ny By Xy Py
      k_steps
      rename Fr gy _ _ _ => F9
      rename News gy _ _ _ => N9
      exact stepG_next (n' := codes.length - _) rfl (by have := Int.toNat_of_nonneg h09; omega) ⟨gy, _, _, _, TT.trans Ty, kindF F9, N9, By, Xy, Py, by omega, hcl', rfl⟩
end


def LawMark : Prop := True
section
variable {prog : Program} {w : World} {A : Around} {E : Value → Shared → Prop} {s : Shared} {h₀ : Heap} {L D b : Addr} {m : Str → Option Value} {news news' : List (Addr × Obj)} {its its2 : Array Value} {n n2 : Nat} {l : List Value}
theorem inplace_list {a b : Value} {Q : Value → Shared → Prop} (ha : s.TypeIs a "list") (hb : s.TypeIs b "list") (hc : wpAny (model prog w) A (call (.builtin "list.__iadd__") [a, b]) Q E s) : wpAny (model prog w) A (inplaceOp .Add a b) Q E s := by
  unfold inplaceOp
  refine wpAny_holding ?_
  have hfi : fillsInplaceSlot (.type "list") "add" (Operator.Add == .Add) = pure false := by
    unfold fillsInplaceSlot
    show (typeLookup (.type "list") (dunderI "add") >>= fun fi => pure (fi.isSome && !isSeqSlot fi)) = pure false
    rw [PySem.F.slot_list_iadd.lookup]; rfl
  refine wpAny_bind (wpAny_typeOf ha (wpAny_bind (wpAny_of_eq hfi ?_)))
  show wpAny _ A (if false = true then _ else _) Q E s
  rw [if_neg Bool.false_ne_true]
  refine wpAny_bind (wpAny_binaryOp1_none (nm := "add") ha hb noFill_list_add ?_)
  refine wpAny_bind (wpAny_of_eq (PySem.seqSlot_of PySem.F.slot_list_iadd.lookup (by decide +kernel)) ?_)
  exact wpAny_bind (wpAny_rule hc)
theorem kl_iadd {Q : Value → Shared → Prop} (F : Fr h₀ L s.heap m) (N : News h₀ L s.heap news) (hb : (b, listOf its2 n2) ∈ news) (e : its.toList ++ its2.toList = l) (hne : its2.toList.length ≠ 0)
    (U : Upd D (listOf its n) (listOf l.toArray (n + 1)) news news') (hd : ¬(!its.isEmpty && Builtin.List.listTooLong (its.size + its2.size)) = true) (hz : its.toList.length ≤ sizeLine) (hz2 : its.size + its2.size ≤ sizeLine + 1)
    (h : ∀ h', Fr h₀ L h' m → News h₀ L h' news' → Q (.ref D) { s with heap := h' }) : wpAny (model prog w) A (inplaceOp .Add (.ref D) (.ref b)) Q E s := by
  obtain ⟨pre, post, rfl, rfl, a, c⟩ := U.split
  have z := N (D, listOf its n) (List.mem_append.mpr (.inr (.head _)))
  refine inplace_list ⟨_, z.1, rfl⟩ ⟨_, (N _ hb).1, rfl⟩ ?_
  refine call_meets PySem.F.slot_list_iadd ⟨_, z.1, rfl⟩ PySem.F.entry_list_iadd (PySem.F.args_list_iadd_2 _ _) (PySem.AutoSeq1.list___iadd___list_list_0 D its n b its2 n2 hd (by simpa using hz) hz2) ⟨z.1, (N _ hb).1, h _ (F.change (Heap.SameBut.update ..) z.2.1 z.2.2) (kl_turn _ N a c ?_ ?_)⟩
  · subst e
    apply Array.toList_inj.mp
    simp
  · subst e
    simp at hne ⊢
    exact hne
theorem load_C {name x : Str} {scope : Scope} {L9 a c : Addr} {cd v : Value} {o : Obj} {Q : Value → Shared → Prop} (N : News h₀ L s.heap news) (hc : (envOfC name scope L9 a cd).cells.lookup x = some c) (hm : (c, o) ∈ news) (hd : o.data = .cell (some v)) (h : Q v s)
    (hk : scope.kind = .function := by rfl) (hx : (envOfC name scope L9 a cd).kindOf x = some .cell := by rfl) :
    wpAny (model prog w) A (loadName (envOfC name scope L9 a cd) x) Q E s := wpAny_loadName_cell hk hx hc ⟨o, N.get hm, hd⟩ h
end
local macro_rules | `(tactic| walk_at "loadName") => `(tactic| ((with_reducible rename LawMark => lawM); (with_reducible show wpAny _ _ (loadName (envOfC _ _ _ _ _) _) _ _ _); k_dflt (refine' load_C ?zN ?zc ?zm ?zd ?_ ?za ?zb; (case za => rfl); (case zb => rfl); (case zN => k_asm); (case zc => rfl); (case zm => k_mem); (case zd => k_asm))))
local macro_rules | `(tactic| walk_at "inplaceOp Add ref") => `(tactic| ((with_reducible rename LawMark => lawM); k_here; (with_reducible show wpAny _ _ (inplaceOp Operator.Add (Value.ref _) (Value.ref _)) _ _ _); k_dflt (refine' kl_iadd ?zF ?zN ?zb ?ze ?zne ?zU ?zd ?zz ?zy ?_; (case zF => k_asm); (case zN => k_asm); (case zb => k_mem); (case zU => k_upd); (case ze => kl_lit); (case zne => kl_some); (case zd => kl_no); (case zz => kl_room); (case zy => kl_room)); intro h9 F9 N9; (try dsimp only); (try k_sweep)))


/-! the plain law of the text -/
def ClauseL (R : List Int) (k : Nat) : Prop := ∀ (codes : List Int) (a : Int), 0 ≤ a → codes.drop a.toNat = R → a + R.length = codes.length → Clause codes a (a + k)
def TokL (R : List Int) (kc : K3) (n : Nat) : Prop := ∀ (codes : List Int) (a : Int), 0 ≤ a → codes.drop a.toNat = R → a + R.length = codes.length → TokIs codes a kc (a + n)
theorem cA {codes R : List Int} {a : Int} (h0 : 0 ≤ a) (hd : codes.drop a.toNat = R) : codeAt codes a = hdC R := by unfold codeAt; rw [hd]
theorem dA {codes R : List Int} {a : Int} (h0 : 0 ≤ a) (hd : codes.drop a.toNat = R) (n : Nat) : codes.drop (a + n).toNat = R.drop n := by
  rw [show (a + (n : Int)).toNat = a.toNat + n from by omega, ← List.drop_drop, hd]
theorem cAn {codes R : List Int} {a : Int} (h0 : 0 ≤ a) (hd : codes.drop a.toNat = R) (n : Nat) : codeAt codes (a + n) = hdC (R.drop n) := by unfold codeAt; rw [dA h0 hd]
theorem ClauseL.eq {R : List Int} {k k' : Nat} (h : ClauseL R k) (e : k = k') : ClauseL R k' := e ▸ h
theorem clause_lay {codes : List Int} {a b Tf : Int} (h : Clause codes b Tf) (hl : ∀ T, LayInv codes T b → LayInv codes T a) (hab : a ≤ b) : Clause codes a Tf := by
  cases h with
  | stop h1 h2 h3 h4 => exact .stop (hl _ h1) h2 h3 h4
  | go h1 h2 h3 h4 h5 h6 h7 => exact .go (hl _ h1) h2 h3 h4 (by omega) h6 h7
theorem lenA {codes R : List Int} {a : Int} (h0 : 0 ≤ a) (hl : a + R.length = codes.length) {n : Nat} (hn : n ≤ R.length) : (a + n) + (R.drop n).length = codes.length := by
  rw [List.length_drop]; omega
theorem lay1 {c : Int} {R : List Int} {k : Nat} (hc : isLayout c = true) (h : ClauseL R k) : ClauseL (c :: R) (k + 1) := fun codes a h0 hd hl => by
  have h1 := dA h0 hd 1
  have := h codes (a + (1 : Nat)) (by omega) h1 (lenA h0 hl (n := 1) (by simp))
  refine clause_lay (b := a + (1 : Nat)) (by rw [show a + ((k + 1 : Nat) : Int) = a + (1 : Nat) + k from by omega]; exact this) ?_ (by omega)
  rintro T ⟨n, hn, e⟩
  exact ⟨n + 1, by rw [hd]; exact .space hc (by rw [h1] at hn; exact hn), by omega⟩
theorem row1 {r : List Int} {n k : Nat} (hn : rowLen (37 :: r) = n) (hle : n ≤ (37 :: r).length) (h : ClauseL ((37 :: r).drop n) k) : ClauseL (37 :: r) (n + k) := fun codes a h0 hd hl => by
  have h1 := dA h0 hd n
  have := h codes (a + (n : Nat)) (by omega) h1 (lenA h0 hl hle)
  refine clause_lay (b := a + (n : Nat)) (by rw [show a + ((n + k : Nat) : Int) = a + (n : Nat) + k from by omega]; exact this) ?_ (by omega)
  rintro T ⟨j, hj, e⟩
  refine ⟨n + j, ?_, by omega⟩
  rw [hd]; rw [h1] at hj; subst hn; exact .row hj
theorem remark1 {r : List Int} {n k : Nat} (hn : remLen r = some n) (hle : n ≤ r.length) (h : ClauseL (r.drop n) k) : ClauseL (47 :: 42 :: r) (2 + n + k) := fun codes a h0 hd hl => by
  have h1 := dA h0 hd (2 + n)
  have h2 : (47 :: 42 :: r).drop (2 + n) = r.drop n := by rw [Nat.add_comm]; rfl
  have := h codes (a + ((2 + n : Nat) : Int)) (by omega) (h1.trans h2) (by rw [← h2]; exact lenA h0 hl (by simp; omega))
  refine clause_lay (b := a + ((2 + n : Nat) : Int)) (by rw [show a + ((2 + n + k : Nat) : Int) = a + ((2 + n : Nat) : Int) + k from by omega]; exact this) ?_ (by omega)
  rintro T ⟨j, hj, e⟩
  refine ⟨2 + n + j, ?_, by omega⟩
  rw [hd]; exact .remark hn (by rw [h1, h2] at hj; exact hj)
def NoLay (R : List Int) : Prop := isLayout (hdC R) = false ∧ hdC R ≠ 37 ∧ ¬ (hdC R = 47 ∧ hdC R.tail = 42)
theorem goL {R : List Int} {kc : K3} {n k : Nat} (hs : NoLay R) (ht : TokL R kc n) (hk : kc = .other ∨ kc = .fault) (hn : 0 < n) (hle : n ≤ R.length) (h : ClauseL (R.drop n) k) : ClauseL R (n + k) := fun codes a h0 hd hl => by
  have := h codes (a + (n : Nat)) (by omega) (dA h0 hd n) (lenA h0 hl hle)
  rw [show a + ((n + k : Nat) : Int) = a + (n : Nat) + k from by omega]
  exact .go (T := a) ⟨0, by rw [hd]; exact .stop hs.1 hs.2.1 hs.2.2, by omega⟩ h0 (ht codes a h0 hd hl) hk (by omega) (by omega) this
theorem stopL {R : List Int} {kc : K3} {n : Nat} (hs : NoLay R) (ht : TokL R kc n) (hk : kc = .fin ∨ kc = .eof) : ClauseL R n := fun codes a h0 hd hl =>
  .stop (T := a) ⟨0, by rw [hd]; exact .stop hs.1 hs.2.1 hs.2.2, by omega⟩ h0 (ht codes a h0 hd hl) hk
theorem nil_L : ClauseL [] 0 := stopL (kc := .eof) ⟨rfl, by decide, by decide⟩ (fun codes a h0 hd hl => by simpa using TokIs.eof (codes := codes) (a := a) (by simp at hl; omega)) (.inr rfl)
theorem t_opens {r : List Int} : TokL (40 :: r) .other 1 := fun codes a h0 hd hl => .opens (by simp at hl; omega) (cA h0 hd)
theorem t_close {r : List Int} : TokL (41 :: r) .other 1 := fun codes a h0 hd hl => .close (by simp at hl; omega) (cA h0 hd)
theorem t_comma {r : List Int} : TokL (44 :: r) .other 1 := fun codes a h0 hd hl => .comma (by simp at hl; omega) (cA h0 hd)
theorem t_bad {r : List Int} : TokL (233 :: r) .fault 1 := fun codes a h0 hd hl => .bad (by simp at hl; omega) (cA h0 hd)
theorem t_small {c : Int} {r : List Int} {n : Nat} (h1 : c ≠ 40) (h2 : isSmall c = true) (hn : wordLen (c :: r) = n) : TokL (c :: r) .other n := fun codes a h0 hd hl => by
  have e := cA h0 hd
  have t := TokIs.small (codes := codes) (a := a) (by simp at hl; omega) (by rw [e]; exact h1) (by rw [e]; exact h2)
  rw [hd, hn] at t; exact t
theorem t_cap {c : Int} {r : List Int} {n : Nat} (h1 : c ≠ 40) (h2 : isSmall c = false) (h3 : isCapital c = true) (hn : wordLen (c :: r) = n) : TokL (c :: r) .other n := fun codes a h0 hd hl => by
  have e := cA h0 hd
  have t := TokIs.cap (codes := codes) (a := a) (by simp at hl; omega) (by rw [e]; exact h1) (by rw [e]; exact h2) (by rw [e]; exact h3)
  rw [hd, hn] at t; exact t
theorem t_quo {r : List Int} {b : Bool} {n : Nat} (hq : quoF 39 r = some (b, n)) : TokL (39 :: r) (if b then .other else .fault) (1 + n) := fun codes a h0 hd hl => by
  have := dA h0 hd 1
  exact .quo (b := b) (by simp at hl; omega) (cA h0 hd) ⟨n, by rw [show a + 1 = a + ((1 : Nat) : Int) from rfl, this]; exact hq, by omega⟩ rfl
theorem t_dquo {r : List Int} {n : Nat} (hq : quoF 34 r = some (true, n)) : TokL (34 :: r) .other (1 + n) := fun codes a h0 hd hl => by
  have := dA h0 hd 1
  exact .dquo (by simp at hl; omega) (cA h0 hd) ⟨n, by rw [show a + 1 = a + ((1 : Nat) : Int) from rfl, this]; exact hq, by omega⟩
theorem t_fin {r : List Int} (h : endsC (hdC r) = true) : TokL (46 :: r) .fin 1 := fun codes a h0 hd hl => by
  have e : codeAt codes a = 46 := cA h0 hd
  have e1 := cAn h0 hd 1
  have q : isEnd codes a = true := end_yes e (by rw [show a + 1 = a + ((1 : Nat) : Int) from rfl, e1]; exact h)
  have t := TokIs.sym (codes := codes) (a := a) (kc := .fin) (by simp at hl; omega) (by rw [e]; decide) (by rw [e]; decide) (by rw [e]; decide) (by rw [e]; decide) (by rw [e]; decide) (by rw [e]; decide) (by rw [e]; decide) (by rw [e]; decide) (by rw [e]; decide) (by rw [q]; rfl)
  rw [symTok_yes q] at t; exact t
theorem t_eqs {r : List Int} {n : Nat} (hn : symLen (61 :: r) = n) : TokL (61 :: r) .other n := fun codes a h0 hd hl => by
  have e : codeAt codes a = 61 := cA h0 hd
  have q : isEnd codes a = false := end_no1 (by rw [e]; decide)
  have t := TokIs.sym (codes := codes) (a := a) (kc := .other) (by simp at hl; omega) (by rw [e]; decide) (by rw [e]; decide) (by rw [e]; decide) (by rw [e]; decide) (by rw [e]; decide) (by rw [e]; decide) (by rw [e]; decide) (by rw [e]; decide) (by rw [e]; decide) (by rw [q]; rfl)
  rw [symTok_no q, hd, hn] at t; exact t
theorem t_num {c : Int} {r : List Int} {d1 n : Nat} {b : Bool} (h1 : c ≠ 40) (h2 : c ≠ 95) (h3 : isSmall c = false) (h4 : isCapital c = false) (h5 : isDigit c = true) (hd1 : digLen (c :: r) = d1) (hd2 : d1 ≤ 3) (hd3 : digLen ((c :: r).drop (d1 + 1)) ≤ 3)
    (hb : (!(c == 48) && hdC ((c :: r).drop d1) == 46 && isDigit (hdC ((c :: r).drop (d1 + 1)))) = b) (hn : (if c = 48 then 3 else if b then d1 + 1 + digLen ((c :: r).drop (d1 + 1)) else d1) = n) : TokL (c :: r) (if b then .fault else .other) n := fun codes a h0 hd hl => by
  have e := cA h0 hd
  have ec : codeAt codes a = c := e
  have g1 : dig1 codes a = d1 := by unfold dig1; rw [hd]; exact hd1
  have g2 : digLen (codes.drop a.toNat) = d1 := by rw [hd]; exact hd1
  have g3 : codes.drop (a + (d1 : Nat) + 1).toNat = (c :: r).drop (d1 + 1) := by
    have := dA h0 hd (d1 + 1)
    rw [← this, show a + ((d1 + 1 : Nat) : Int) = a + (d1 : Nat) + 1 from by omega]
  have g4 : badNum codes a = b := by
    unfold badNum
    rw [ec, g1, cAn h0 hd d1]
    rw [show codeAt codes (a + (d1 : Nat) + 1) = hdC ((c :: r).drop (d1 + 1)) from by unfold codeAt; rw [g3]]
    exact hb
  have g5 : numN codes a = n := by
    unfold numN
    rw [g4, ec, g1]
    rw [show dig1 codes (a + (d1 : Nat) + 1) = digLen ((c :: r).drop (d1 + 1)) from by unfold dig1; rw [g3]]
    exact hn
  have t := TokIs.num (codes := codes) (a := a) (kc := if b then .fault else .other) (by simp at hl; omega) (by rw [ec]; exact h1) (by rw [ec]; exact h2) (by rw [ec]; exact h3) (by rw [ec]; exact h4) (by rw [ec]; exact h5) (by rw [g2]; exact hd2) (by rw [g2, g3]; exact hd3) (by rw [g4])
  rw [g5] at t; exact t


def okL : List Int → Bool
  | [] => true
  | c :: r => (c == 10 || (decide (32 ≤ c) && decide (c ≤ 233) && !(c == 127))) && (!(c == 92) || hdC r == 113) && (!(c == 48) || (hdC r == 39 && hdC r.tail == 46)) && okL r
theorem getD_hdC (l : List Int) (i : Nat) (h : i < l.length) : l.getD i 0 = hdC (l.drop i) := by
  unfold hdC
  rw [List.headD_eq_head?_getD, List.head?_drop, List.getD_eq_getElem?_getD, List.getElem?_eq_getElem h]; rfl
theorem okL_at {l : List Int} (h : okL l = true) (i : Nat) (hi : i < l.length) :
    (l.getD i 0 = 92 → hdC (l.drop (i + 1)) = 113) ∧ (l.getD i 0 = 48 → hdC (l.drop (i + 1)) = 39 ∧ hdC (l.drop (i + 2)) = 46) := by
  induction l generalizing i with
  | nil => simp at hi
  | cons c r ih =>
    simp only [okL, Bool.and_eq_true, Bool.or_eq_true, Bool.not_eq_true', beq_eq_false_iff_ne, beq_iff_eq] at h
    obtain ⟨⟨⟨_, h2⟩, h3⟩, h4⟩ := h
    cases i with
    | zero =>
      refine ⟨fun e => ?_, fun e => ?_⟩
      · have e' : c = 92 := e
        rcases h2 with q | q
        · exact absurd e' q
        · exact q
      · have e' : c = 48 := e
        rcases h3 with q | q
        · exact absurd e' q
        · refine ⟨q.1, ?_⟩
          show hdC (r.drop 1) = 46
          rw [List.drop_one]; exact q.2
    | succ j => exact ih h4 j (by simpa using hi)
theorem okL_low {l : List Int} (h : okL l = true) : ∀ c ∈ l, c = 10 ∨ (32 ≤ c ∧ c ≤ 233 ∧ c ≠ 127) := by
  induction l with
  | nil => intro c hc; cases hc
  | cons c r ih =>
    simp only [okL, Bool.and_eq_true, Bool.or_eq_true, Bool.not_eq_true', beq_eq_false_iff_ne, beq_iff_eq, decide_eq_true_eq] at h
    obtain ⟨⟨⟨h1, _⟩, _⟩, h4⟩ := h
    intro x hx
    rcases List.mem_cons.mp hx with rfl | q
    · rcases h1 with q | q
      · exact .inl q
      · exact .inr ⟨q.1.1, q.1.2, q.2⟩
    · exact ih h4 x q
theorem good_of {l : List Int} (h : okL l = true) (hs : l.length < 200) : Good l where
  low := okL_low h
  size := hs
  esc := fun i e => by
    have hi : i < l.length := by
      rcases Nat.lt_or_ge i l.length with q | q
      · exact q
      · rw [List.getD_eq_getElem?_getD, List.getElem?_eq_none q] at e; cases e
    have q := (okL_at h i hi).1 e
    have hi1 : i + 1 < l.length := by
      rcases Nat.lt_or_ge (i + 1) l.length with p | p
      · exact p
      · rw [List.drop_eq_nil_of_le p] at q; exact absurd q (by decide)
    rw [getD_hdC _ _ hi1]; exact q
  nought := fun i e => by
    have hi : i < l.length := by
      rcases Nat.lt_or_ge i l.length with q | q
      · exact q
      · rw [List.getD_eq_getElem?_getD, List.getElem?_eq_none q] at e; cases e
    have q := (okL_at h i hi).2 e
    have hi1 : i + 1 < l.length := by
      rcases Nat.lt_or_ge (i + 1) l.length with p | p
      · exact p
      · rw [List.drop_eq_nil_of_le p] at q; exact absurd q.1 (by decide)
    have hi2 : i + 2 < l.length := by
      rcases Nat.lt_or_ge (i + 2) l.length with p | p
      · exact p
      · rw [List.drop_eq_nil_of_le p] at q; exact absurd q.2 (by decide)
    rw [getD_hdC _ _ hi1, getD_hdC _ _ hi2]; exact q
def tab : List (List Int × Bool) :=
  [([97, 98, 32], false), ([46, 32], true), ([39, 97, 46, 32, 98, 39, 32], false), ([34, 120, 46, 32, 34, 32], false), ([47, 42, 32, 46, 32, 10, 32, 46, 32, 42, 47, 32], false), ([37, 32, 97, 32, 46, 32, 98, 10], false), ([102, 40, 88, 44, 32, 49, 50, 41, 32], false), ([46, 10], true),
   ([10, 32], false), ([39, 92, 113, 46, 32, 39, 32], false), ([233, 32], false), ([48, 39, 46, 32], false), ([61, 46, 46, 32], false), ([49, 46, 53, 32], false), ([46, 37, 10], true)]
def flat (ps : List (List Int × Bool)) : List Int := (ps.map (·.1)).flatten
def dueL : List (List Int × Bool) → Nat
  | [] => 0
  | p :: ps => if p.2 then 1 else p.1.length + dueL ps
theorem flat_cons (p : List Int × Bool) (ps : List (List Int × Bool)) : flat (p :: ps) = p.1 ++ flat ps := by unfold flat; rw [List.map_cons, List.flatten_cons]
theorem flat_ok {ps : List (List Int × Bool)} (h : ∀ p ∈ ps, p ∈ tab) : okL (flat ps) = true := by
  induction ps with
  | nil => rfl
  | cons p ps ih =>
    have ih := ih fun q hq => h q (.tail _ hq)
    have hp := h p (.head _)
    rw [flat_cons]
    generalize flat ps = R at ih
    simp only [tab, List.mem_cons, List.not_mem_nil, or_false] at hp
    rcases hp with rfl | rfl | rfl | rfl | rfl | rfl | rfl | rfl | rfl | rfl | rfl | rfl | rfl | rfl | rfl
    all_goals simp [okL, ih, hdC]
theorem flat_len {ps : List (List Int × Bool)} (h : ∀ p ∈ ps, p ∈ tab) : (flat ps).length ≤ 12 * ps.length := by
  induction ps with
  | nil => simp [flat]
  | cons p ps ih =>
    have ih := ih fun q hq => h q (.tail _ hq)
    have hp := h p (.head _)
    rw [flat_cons, List.length_append, List.length_cons]
    have : p.1.length ≤ 12 := (show ∀ p ∈ tab, p.1.length ≤ 12 by decide) p hp
    omega
theorem flat_good {ps : List (List Int × Bool)} (h : ∀ p ∈ ps, p ∈ tab) (h8 : ps.length ≤ 8) : Good (flat ps) := good_of (flat_ok h) (by have := flat_len h; omega)
theorem nl {R : List Int} (h1 : isLayout (hdC R) = false) (h2 : hdC R ≠ 37) (h3 : ¬ (hdC R = 47 ∧ hdC R.tail = 42)) : NoLay R := ⟨h1, h2, h3⟩

theorem flat_clause {ps : List (List Int × Bool)} (h : ∀ p ∈ ps, p ∈ tab) : ClauseL (flat ps) (dueL ps) := by
  induction ps with
  | nil => exact nil_L
  | cons p ps ih =>
    have ih := ih fun q hq => h q (.tail _ hq)
    have hp := h p (.head _)
    rw [flat_cons]
    unfold dueL
    generalize flat ps = R at ih
    generalize dueL ps = k at ih
    simp only [tab, List.mem_cons, List.not_mem_nil, or_false] at hp
    rcases hp with rfl | rfl | rfl | rfl | rfl | rfl | rfl | rfl | rfl | rfl | rfl | rfl | rfl | rfl | rfl
    all_goals simp only [List.cons_append, List.nil_append, List.length_cons, List.length_nil, Bool.false_eq_true, if_false, if_true]
    · refine ClauseL.eq (k := 2 + (k + 1)) ?_ (by omega)
      exact (goL (n := 2) (nl rfl (by simp [hdC]) (by simp [hdC])) (t_small (by decide) rfl rfl) (.inl rfl) (by decide) (by simp) (lay1 rfl ih))
    · refine ClauseL.eq (k := 1) ?_ (by omega)
      exact stopL (nl rfl (by simp [hdC]) (by simp [hdC])) (t_fin rfl) (.inl rfl)
    · refine ClauseL.eq (k := 6 + (k + 1)) ?_ (by omega)
      exact (goL (n := 6) (nl rfl (by simp [hdC]) (by simp [hdC])) (t_quo (b := true) (n := 5) (by simp [quoF, hdC])) (.inl rfl) (by decide) (by simp) (lay1 rfl ih))
    · refine ClauseL.eq (k := 5 + (k + 1)) ?_ (by omega)
      exact (goL (n := 5) (nl rfl (by simp [hdC]) (by simp [hdC])) (t_dquo (n := 4) (by simp [quoF, hdC])) (.inl rfl) (by decide) (by simp) (lay1 rfl ih))
    · refine ClauseL.eq (k := 2 + 9 + (k + 1)) ?_ (by omega)
      exact (remark1 (n := 9) (by simp [remLen, hdC]) (by simp) (lay1 rfl ih))
    · refine ClauseL.eq (k := 7 + (k + 1)) ?_ (by omega)
      exact (row1 (n := 7) rfl (by simp) (lay1 rfl ih))
    · refine ClauseL.eq (k := 1 + (1 + (1 + (1 + ((2 + (1 + (k + 1))) + 1))))) ?_ (by omega)
      exact (goL (n := 1) (nl rfl (by simp [hdC]) (by simp [hdC])) (t_small (by decide) rfl rfl) (.inl rfl) (by decide) (by simp) (goL (n := 1) (nl rfl (by simp [hdC]) (by simp [hdC])) t_opens (.inl rfl) (by decide) (by simp) (goL (n := 1) (nl rfl (by simp [hdC]) (by simp [hdC])) (t_cap (by decide) rfl rfl rfl) (.inl rfl) (by decide) (by simp) (goL (n := 1) (nl rfl (by simp [hdC]) (by simp [hdC])) t_comma (.inl rfl) (by decide) (by simp) (lay1 rfl
        (goL (n := 2) (nl rfl (by simp [hdC]) (by simp [hdC])) (t_num (d1 := 2) (b := false) (by decide) (by decide) rfl rfl rfl rfl (by decide) (by simp [digLen, isDigit]) rfl rfl) (.inl rfl) (by decide) (by simp) (goL (n := 1) (nl rfl (by simp [hdC]) (by simp [hdC])) t_close (.inl rfl) (by decide) (by simp) (lay1 rfl ih))))))))
    · refine ClauseL.eq (k := 1) ?_ (by omega)
      exact stopL (nl rfl (by simp [hdC]) (by simp [hdC])) (t_fin rfl) (.inl rfl)
    · refine ClauseL.eq (k := (k + 1) + 1) ?_ (by omega)
      exact (lay1 rfl (lay1 rfl ih))
    · refine ClauseL.eq (k := 6 + (k + 1)) ?_ (by omega)
      exact (goL (n := 6) (nl rfl (by simp [hdC]) (by simp [hdC])) (t_quo (b := false) (n := 5) (by simp [quoF, abL, hdC])) (.inr rfl) (by decide) (by simp) (lay1 rfl ih))
    · refine ClauseL.eq (k := 1 + (k + 1)) ?_ (by omega)
      exact (goL (n := 1) (nl rfl (by simp [hdC]) (by simp [hdC])) t_bad (.inr rfl) (by decide) (by simp) (lay1 rfl ih))
    · refine ClauseL.eq (k := 3 + (k + 1)) ?_ (by omega)
      exact (goL (n := 3) (nl rfl (by simp [hdC]) (by simp [hdC])) (t_num (d1 := 1) (b := false) (by decide) (by decide) rfl rfl rfl rfl (by decide) (by simp [digLen, isDigit]) rfl rfl) (.inl rfl) (by decide) (by simp) (lay1 rfl ih))
    · refine ClauseL.eq (k := 3 + (k + 1)) ?_ (by omega)
      exact (goL (n := 3) (nl rfl (by simp [hdC]) (by simp [hdC])) (t_eqs rfl) (.inl rfl) (by decide) (by simp) (lay1 rfl ih))
    · refine ClauseL.eq (k := 3 + (k + 1)) ?_ (by omega)
      exact (goL (n := 3) (nl rfl (by simp [hdC]) (by simp [hdC])) (t_num (d1 := 1) (b := true) (by decide) (by decide) rfl rfl rfl rfl (by decide) (by simp [digLen, isDigit]) rfl rfl) (.inr rfl) (by decide) (by simp) (lay1 rfl ih))
    · refine ClauseL.eq (k := 1) ?_ (by omega)
      exact stopL (nl rfl (by simp [hdC]) (by simp [hdC])) (t_fin rfl) (.inl rfl)


def pl0 (p : Int × Int) (c : Nat) : Int × Int := plStep p (c : Int)
theorem pl_free : ∀ (l : List Nat) (p : Int × Int), 10 ∉ l → l.foldl pl0 p = (p.1, p.2 + l.length)
  | [], p, _ => by simp
  | c :: r, p, h => by
    have hc : c ≠ 10 := fun q => h (q ▸ .head _)
    rw [List.foldl_cons, pl_free r _ (fun q => h (.tail _ q))]
    have : pl0 p c = (p.1, p.2 + 1) := by unfold pl0 plStep; rw [if_neg (by omega)]
    rw [this, List.length_cons]
    refine Prod.ext rfl ?_
    show p.2 + 1 + (r.length : Int) = p.2 + ((r.length + 1 : Nat) : Int)
    omega
theorem pl_join : ∀ (a : Str) (ts : List Str) (p : Int × Int), (∀ t ∈ a :: ts, 10 ∉ t.cps.toList) → (Str.join ⟨#[10]⟩ (a :: ts)).cps.toList.foldl pl0 p = (p.1 + (ts.length : Int), (if ts.length = 0 then p.2 else 1) + (((a :: ts).getLast (by simp)).length : Int))
  | a, [], p, h => by
    show a.cps.toList.foldl pl0 p = _
    rw [pl_free _ _ (h a (.head _))]
    simp [Str.length]
  | a, b :: ts, p, h => by
    rw [join_cons_cons]
    show ((a.cps ++ #[10]) ++ (Str.join ⟨#[10]⟩ (b :: ts)).cps).toList.foldl pl0 p = _
    rw [Array.toList_append, Array.toList_append, List.foldl_append, List.foldl_append, pl_free _ _ (h a (.head _)), pl_join b ts _ (fun t ht => h t (.tail _ ht))]
    have : [10].foldl pl0 (p.1, p.2 + (a.cps.toList.length : Int)) = (p.1 + 1, 1) := rfl
    rw [show (#[10] : Array Nat).toList = [10] from rfl, this, List.getLast_cons (List.cons_ne_nil b ts)]
    refine Prod.ext ?_ ?_
    · show p.1 + 1 + (ts.length : Int) = p.1 + ((b :: ts).length : Int)
      rw [List.length_cons]; omega
    · show (if ts.length = 0 then (1 : Int) else 1) + _ = (if (b :: ts).length = 0 then p.2 else 1) + _
      rw [if_neg (by simp : ¬ (b :: ts).length = 0)]
      split <;> rfl
theorem split_ne (x y : Str) : Txt.split x y ≠ [] := fun e => by have := split_pos x y; rw [e] at this; exact absurd this (by decide)
theorem place_parts (q : List Str) (n : q ≠ []) (h : ∀ t ∈ q, 10 ∉ t.cps.toList) (x : Str) (e : Str.join ⟨#[10]⟩ q = x) : x.cps.toList.foldl pl0 (1, 1) = ((q.length : Int), ((q.getLast n).length : Int) + 1) := by
  cases q with
  | nil => exact absurd rfl n
  | cons a ts =>
    have := pl_join a ts (1, 1) h
    rw [e] at this
    rw [this]
    refine Prod.ext ?_ ?_
    · show (1 : Int) + _ = ((a :: ts).length : Int); rw [List.length_cons]; omega
    · show (if ts.length = 0 then (1 : Int) else 1) + (((a :: ts).getLast _).length : Int) = (((a :: ts).getLast _).length : Int) + 1
      split <;> omega
/-- the plain count of the law's front is the place that the tokenizer tells -/
theorem place_split (x : Str) : (x.cps.toList.foldl pl0 (1, 1)) = (((Txt.split x ⟨#[10]⟩).length : Int), (((Txt.split x ⟨#[10]⟩).getLast (split_ne x ⟨#[10]⟩)).length : Int) + 1) :=
  place_parts _ _ (StrLaws.split_free x 10) _ (StrLaws.join_split x ⟨#[10]⟩)
theorem foldl_pl0 (l : List Nat) (p : Int × Int) : (l.map Int.ofNat).foldl plStep p = l.foldl pl0 p := by
  rw [List.foldl_map]; rfl
theorem place_front (l : List Nat) (i : Nat) : placeOf (l.map Int.ofNat) i = (l.take i).foldl pl0 (1, 1) := by
  unfold placeOf
  rw [show (i : Int).toNat = i from rfl, ← List.map_take, foldl_pl0]


section
variable {prog : Program} {w : World} {A : Around} {h₀ : Heap} {L : Addr} {m : Str → Option Value} {env : Env} {elt : Expr} {x : Str} {scope : Scope} {cl : List (Str × Addr)} {s : Shared} {S : List (Addr × Obj) → Prop} {P : Nat → Value → Prop} {Fin : List Value → List (Addr × Obj) → Prop} {news : List (Addr × Obj)}
def RowEl (its : List Value) (news : List (Addr × Obj)) (y : Value) (news' : List (Addr × Obj)) : Prop := news' = news ∧ y ∈ its
theorem rows_rest {n : Nat} {a : Int} (its : List Value)
    (turn : ∀ k t I oI C oC D m₂ ys h tk (E' : Value → Shared → Prop), a ≤ k → k < a + (n : Int) → LCg.NsObj oC m₂ → m₂ x = some (.int k t) → Fr h₀ L h m → News h₀ L h ((I, oI) :: (C, oC) :: (D, LCg.lst ys) :: news) → LCg.Off3 I C D news → ((@Ne Nat I C) ∧ (@Ne Nat I D) ∧ (@Ne Nat C D)) →
      wpAny (model prog w) A (eval elt (compEnvC scope cl C env)) (LCg.CompEnd h₀ L m { s with heap := h, toks := tk } I oI C oC D (LCg.lst ys) S (fun y news' => RowEl its news y news')) E' { s with heap := h, toks := tk })
    (fin : ∀ ys, ys.length = n → (∀ y ∈ ys, y ∈ its) → Fin ys news) : LCg.CompRest prog w A h₀ L m env elt x scope cl s S (fun i v => ∃ t, v = .int (a + (i : Int)) t) Fin n 0 [] news := by
  have key : ∀ (j i : Nat) (ys : List Value), i + j = n → ys.length = i → (∀ y ∈ ys, y ∈ its) → LCg.CompRest prog w A h₀ L m env elt x scope cl s S (fun i v => ∃ t, v = .int (a + (i : Int)) t) Fin j i ys news := by
    intro j
    induction j with
    | zero =>
      intro i ys hi hy hy2
      exact LCg.CompRest.zero (fin ys (by omega) hy2)
    | succ j ih =>
      intro i ys hi hy hy2
      refine LCg.CompRest.succ ?_
      intro v I oI C oC D m₂ h tk E' hv hC hx F N off ne
      obtain ⟨t, hv'⟩ := hv
      rw [hv'] at hx
      refine wpAny_mono (turn (a + (i : Int)) t I oI C oC D m₂ ys h tk E' (by omega) (by omega) hC hx F N off ne) (fun y s₂ hq => ?_) fun _ _ e => e
      obtain ⟨h', tk', nw, e, F', N', off', hS, hn, hy'⟩ := hq
      rw [hn] at N' off' hS
      refine ⟨h', tk', news, e, F', N', off', hS, ?_⟩
      refine ih (i + 1) _ (by omega) (by simp [hy]) ?_
      intro z hz
      rcases List.mem_append.mp hz with hz | hz
      · exact hy2 z hz
      · rw [List.mem_singleton.mp hz]; exact hy'
  exact key n 0 [] (by omega) rfl (fun _ h => nomatch h)
end
theorem news_cut {h₀ h : Heap} {L : Addr} {news : List (Addr × Obj)} (a b : Nat) (N : News h₀ L h news) : News h₀ L h (news.take a ++ news.drop b) := fun p hp => by
  rcases List.mem_append.mp hp with hp | hp
  · exact N p (List.mem_of_mem_take hp)
  · exact N p (List.mem_of_mem_drop hp)
def isCellD : Data → Bool
  | .cell _ => true
  | _ => false
theorem nc_of {o : Obj} (h : isCellD o.data = false) : ∀ v, o.data ≠ .cell v := fun v e => by rw [e] at h; cases h
inductive UpdC (d : Addr) (o : Obj) : List (Addr × Obj) → (Obj → List (Addr × Obj)) → Prop
  | head {r} : ApartOr d r → UpdC d o ((d, o) :: r) (fun o' => (d, o') :: r)
  | tail {p r g} : (p.1 ≠ d ∨ ∀ v, p.2.data ≠ .cell v) → UpdC d o r g → UpdC d o (p :: r) (fun o' => p :: g o')
theorem UpdC.toF {h₀ h : Heap} {L d : Addr} {o : Obj} {v₀ : Option Value} (hd : o.data = .cell v₀) (e : h.get? d = some o) {l : List (Addr × Obj)} {g : Obj → List (Addr × Obj)} (N : News h₀ L h l) (U : UpdC d o l g) : UpdF d o l g := by
  induction U with
  | head h =>
    refine .head fun p hp q => ?_
    rcases h.all p hp with h3 | h3
    · exact h3 q
    · have h4 := (N p (List.mem_cons_of_mem _ hp)).1
      rw [q, e] at h4
      exact h3 v₀ (by rw [← Option.some.inj h4]; exact hd)
  | @tail p r g h _ ih =>
    refine .tail (fun q => ?_) (ih fun x hx => N x (List.mem_cons_of_mem _ hx))
    rcases h with h3 | h3
    · exact h3 q
    · have h4 := (N p List.mem_cons_self).1
      rw [q, e] at h4
      exact h3 v₀ (by rw [← Option.some.inj h4]; exact hd)
theorem UpdC.mem {d : Addr} {o : Obj} {l : List (Addr × Obj)} {g : Obj → List (Addr × Obj)} (U : UpdC d o l g) : (d, o) ∈ l := by
  induction U with
  | head _ => exact List.mem_cons_self
  | tail _ _ ih => exact List.mem_cons_of_mem _ ih
theorem store_C {M : Model} {A : Around} {E : Value → Shared → Prop} {s : Shared} {h₀ : Heap} {L : Addr} {m : Str → Option Value} {news : List (Addr × Obj)} {g : Obj → List (Addr × Obj)} {name x : Str} {scope : Scope} {L9 a c : Addr} {cd v : Value} {v₀ : Option Value} {o : Obj} {Q : Unit → Shared → Prop}
    (F : Fr h₀ L s.heap m) (N : News h₀ L s.heap news) (hc : (envOfC name scope L9 a cd).cells.lookup x = some c) (U : UpdC c o news g) (hd : o.data = .cell v₀)
    (h : ∀ h' o', Fr h₀ L h' m → News h₀ L h' (g o') → o'.data = .cell (some v) → Q () { s with heap := h' })
    (hk : scope.kind = .function := by rfl) (hx : (envOfC name scope L9 a cd).kindOf x = some .cell := by rfl) : wpAny M A (storeName (envOfC name scope L9 a cd) x v) Q E s := by
  have hm := N _ U.mem
  obtain ⟨own, rest, rfl, hg, h1, h2⟩ := (U.toF hd hm.1 N).split
  refine wpAny_storeName_cell hk hx hc ⟨o, hm.1, hd⟩ fun h' hv hs => ?_
  obtain ⟨o', ho', hd'⟩ := hv
  refine h h' o' ⟨F.ns.sameBut hs (Ne.symm hm.2.1), fun b ob e => (hs.2 b (fun q => ?_)).trans (F.keep b ob e), F.above⟩ (hg o' ▸ N.setAt h1 h2 hs ho') hd'
  rw [q, hm.2.2] at e; cases e
local macro_rules | `(tactic| walk_at "storeName") => `(tactic| ((with_reducible rename LawMark => lawM); (with_reducible show wpAny _ _ (storeName (envOfC _ _ _ _ _) _ _) _ _ _); k_dflt (refine' store_C ?yF ?yN ?yc ?yU ?yd ?_ ?ya ?yb; (case ya => rfl); (case yb => rfl); (case yF => k_asm); (case yN => k_asm); (case yc => rfl); (case yU => (repeat' (first | refine' UpdC.head ?_ | refine' UpdC.tail ?_ ?_ | exact trivial | exact .inr (nc_of rfl) | exact .inl (by k_ne) | exact .inl (by omega) | refine And.intro ?_ ?_))); (case yd => k_asm)); intro h9 o9 F9 N9 d9; (try dsimp only at N9); (try k_sweep)))
theorem pick_list {prog : Program} {w : World} {A : Around} {E : Value → Shared → Prop} {s : Shared} {h₀ : Heap} {L l : Addr} {news : List (Addr × Obj)} {its : List Value} {n : Nat} {value slice : Expr} {k : Int} {u : Tok} {Q : Value → Shared → Prop} (N : News h₀ L s.heap news) (hm : (l, listOf its.toArray n) ∈ news)
    (h0 : 0 ≤ k) (h1 : k < (its.length : Int)) (hfit : k < 2 ^ 63) (h : ∀ y ∈ its, Q y s)
    (hs : subscripted slice false (.ref l) (.int k u) = operate [.ref l, .int k u] (getItem (.ref l) (.int k u)) := by with_unfolding_all rfl) :
    wpAny (model prog w) A (subscriptTail value slice (.ref l) (.int k u)) Q E s := by
  have h2 : k.toNat < its.length := by omega
  exact item_listR ⟨_, (N _ hm).1, rfl, _, rfl⟩ h0 hfit (by rw [List.getElem?_toArray, List.getElem?_eq_getElem h2]) (h _ (List.getElem_mem h2)) hs
theorem AllObj.mono : ∀ {ws : List (Addr × String)} {k k' : List (Addr × Obj) → Prop}, (∀ its, k its → k' its) → AllObj ws k → AllObj ws k'
  | [], _, _, h, x => h _ x
  | _ :: _, _, _, h, x => fun o ho => AllObj.mono (fun its hk => h _ hk) (x o ho)
section
variable {prog : Program} {w : World} {A : Around} {E : Value → Shared → Prop} {s : Shared} {env : Env} {h₀ : Heap} {target : Expr} {body : List Stmt} {Q : Flow → Shared → Prop}
theorem UnrPostW.mono {L : Addr} {s₁ : Shared} {its : List (Addr × Obj)} {r r' : (Str → Option Value) → List (Addr × Obj) → Prop} (h : ∀ m n, r m n → r' m n) : ∀ f s₂, UnrPostW h₀ L s₁ its r Q f s₂ → UnrPostW h₀ L s₁ its r' Q f s₂
  | .ret _, _, x => x
  | .brk, _, x => x
  | .next, _, ⟨h', tk, m', n', a, b, c, d, e⟩ => ⟨h', tk, m', n', a, b, c, d, h _ _ e⟩
  | .cont, _, ⟨h', tk, m', n', a, b, c, d, e⟩ => ⟨h', tk, m', n', a, b, c, d, h _ _ e⟩
theorem items_inv {ws : List (Addr × String)} {keep : List (Addr × Obj)} (J : List Itm → (Str → Option Value) → List (Addr × Obj) → Prop)
    (step : ∀ a r m news v h tk, J (a :: r) m news → a.Is v h → Fr h₀ env.locals h m → AllObj ws (fun its => News h₀ env.locals h (its ++ news) →
      wpAny (model prog w) A (assign target env v) (fun _ s₂ => wpAny (model prog w) A (execs body env) (UnrPostW h₀ env.locals { s with heap := h, toks := tk } its (fun m' n' => SubL keep n' ∧ J r m' n') Q) E s₂) E { s with heap := h, toks := tk }))
    (fin : ∀ m news h tk, J [] m news → Fr h₀ env.locals h m → News h₀ env.locals h news → Q .next { s with heap := h, toks := tk }) :
    ∀ xs m news, J xs m news → ItemsRest prog w A E h₀ env target body Q s ws keep xs m news
  | [], m, news, hJ => fun h tk F N => fin m news h tk hJ F N
  | a :: r, m, news, hJ => fun v h tk hv F => AllObj.mono (fun its hk N => wpAny_mono (hk N) (fun _ s₂ h₂ => wpAny_mono h₂ (fun f s₃ h₃ => UnrPostW.mono (fun m' n' x => ⟨x.1, items_inv J step fin r m' n' x.2⟩) f s₃ h₃) fun _ _ e => e) fun _ _ e => e) (step a r m news v h tk hJ hv F)
end
theorem fr_named {h₀ h : Heap} {L : Addr} {m : Str → Option Value} {x : Str} {v : Value} (e : m x = some v) (F : Fr h₀ L h m) : Fr h₀ L h (fun z => if z = x then some v else m z) := by
  have : (fun z => if z = x then some v else m z) = m := by funext z; by_cases q : z = x <;> simp [q, e]
  rw [this]; exact F
theorem SubL.fact {a b c : List (Addr × Obj)} (h : SubL a b) (N : ∀ p ∈ b, p ∈ c) : ∀ p ∈ a, p ∈ c := fun p hp => N p (h.mem p hp)
theorem fr_named3 {h₀ h : Heap} {L : Addr} {m : Str → Option Value} {x1 x2 x3 : Str} {v1 v2 v3 : Value} (e1 : m x1 = some v1) (e2 : m x2 = some v2) (e3 : m x3 = some v3) (F : Fr h₀ L h m) : Fr h₀ L h (fun z => if z = x3 then some v3 else if z = x2 then some v2 else if z = x1 then some v1 else m z) := by
  have : (fun z => if z = x3 then some v3 else if z = x2 then some v2 else if z = x1 then some v1 else m z) = m := by
    funext z
    by_cases q3 : z = x3
    · simp [q3, e3]
    · by_cases q2 : z = x2
      · rw [if_neg q3, if_pos q2, q2, e2]
      · by_cases q1 : z = x1
        · rw [if_neg q3, if_neg q2, if_pos q1, q1, e1]
        · rw [if_neg q3, if_neg q2, if_neg q1]
  rw [this]; exact F
theorem news_tail {h₀ h : Heap} {L : Addr} {a : Addr × Obj} {news : List (Addr × Obj)} (N : News h₀ L h (a :: news)) : News h₀ L h news := fun p hp => N p (List.mem_cons_of_mem _ hp)
def codesOf (s : Str) : List Int := s.cps.toList.map Int.ofNat
def tupO (s : Str) (t : Tok) (b : Bool) : Obj := { cls := .type "tuple", data := .seq #[.str s t, .bool b] }
def begsL : Int → List (List Int × Bool) → List Int
  | _, [] => []
  | k, p :: ps => k :: begsL (k + p.1.length) ps
def endsL : Int → List (List Int × Bool) → List Int
  | _, [] => []
  | k, p :: ps => if p.2 then (k + 1) :: endsL (k + p.1.length) ps else endsL (k + p.1.length) ps
theorem flat_snoc (ps : List (List Int × Bool)) (p : List Int × Bool) : flat (ps ++ [p]) = flat ps ++ p.1 := by unfold flat; simp
theorem begsL_snoc : ∀ (ps : List (List Int × Bool)) (k : Int) (p : List Int × Bool), begsL k (ps ++ [p]) = begsL k ps ++ [k + (flat ps).length]
  | [], k, p => by simp [begsL, flat]
  | q :: ps, k, p => by
    show k :: begsL (k + q.1.length) (ps ++ [p]) = k :: begsL (k + q.1.length) ps ++ _
    rw [begsL_snoc ps, flat_cons, List.length_append, List.cons_append]
    congr 3; push_cast; omega
theorem endsL_snoc : ∀ (ps : List (List Int × Bool)) (k : Int) (p : List Int × Bool), endsL k (ps ++ [p]) = endsL k ps ++ (if p.2 then [k + (flat ps).length + 1] else [])
  | [], k, p => by cases h : p.2 <;> simp [endsL, flat, h]
  | q :: ps, k, p => by
    have e : k + ((flat (q :: ps)).length : Int) + 1 = k + q.1.length + (flat ps).length + 1 := by rw [flat_cons, List.length_append]; push_cast; omega
    rw [e]
    show (if q.2 then (k + 1) :: endsL (k + q.1.length) (ps ++ [p]) else endsL (k + q.1.length) (ps ++ [p])) = (if q.2 then (k + 1) :: endsL (k + q.1.length) ps else endsL (k + q.1.length) ps) ++ _
    rw [endsL_snoc ps]
    cases q.2 <;> simp
def RowsJ (R : List (Addr × Obj)) (n : Nat) (B E : Addr) (xs : List Itm) (m : Str → Option Value) (news : List (Addr × Obj)) : Prop :=
  ∃ ps wide t bs es nb ne, news = (E, listOf (List.toArray es) ne) :: (B, listOf (List.toArray bs) nb) :: R ∧ m (Str.ofString "wide") = some (.str wide t) ∧ m (Str.ofString "begins") = some (.ref B) ∧ m (Str.ofString "ends") = some (.ref E) ∧
    (∀ p ∈ ps, p ∈ tab) ∧ ps.length + xs.length = n ∧ codesOf wide = flat ps ∧ IntsAre bs (begsL 0 ps) ∧ IntsAre es (endsL 0 ps) ∧
    (∀ x ∈ xs, ∃ Dt s t b, x = .val (.ref Dt) ∧ (Dt, tupO s t b) ∈ R ∧ (codesOf s, b) ∈ tab)
theorem codes_len (s : Str) : (codesOf s).length = s.length := by unfold codesOf; simp [Str.length]
theorem news_put {h₀ h : Heap} {L : Addr} {news : List (Addr × Obj)} {p : Addr × Obj} (N : News h₀ L h news) (hp : p ∈ news) : News h₀ L h (p :: news) := fun q hq => by
  rcases List.mem_cons.mp hq with rfl | hq
  · exact N _ hp
  · exact N _ hq
theorem with_rest {h₀ h : Heap} {L : Addr} {a b : Addr × Obj} {rest : List (Addr × Obj)} {P : Prop} (_ : News h₀ L h (a :: b :: rest)) (k : ∀ r, r = rest → P) : P := k _ rfl
theorem rowFact {R : List (Addr × Obj)} {Dt : Addr} {s : Str} {t : Tok} {b : Bool} (hm : (Dt, tupO s t b) ∈ R) (hp : (codesOf s, b) ∈ tab) : ∃ Dt' s t b, Itm.val (.ref Dt) = .val (.ref Dt') ∧ (Dt', tupO s t b) ∈ R ∧ (codesOf s, b) ∈ tab := ⟨_, _, _, _, rfl, hm, hp⟩
local macro_rules | `(tactic| walk_at "call builtin:list.append") => `(tactic| ((with_reducible rename LawMark => lawM); k_here; (with_reducible show wpAny _ _ (call (Value.builtin _) [Value.ref _, _]) _ _ _); k_dflt (refine' append_K ?aF ?aN ?aU ?_ ?az; (case aF => k_asm); (case aN => k_asm); (case aU => k_upd); (case az => (rw [PySem.sizeLine_eq]; simp only [List.size_toArray]; omega)); k_whole); intro h9 F9 N9; (try simp only [List.push_toArray] at N9); (try k_sweep)))
theorem codes_append (a b : Str) : codesOf (a ++ b) = codesOf a ++ codesOf b := by
  show ((a.cps ++ b.cps).toList).map Int.ofNat = _
  rw [Array.toList_append, List.map_append]; rfl
theorem begsL_len : ∀ (ps : List (List Int × Bool)) (k : Int), (begsL k ps).length = ps.length
  | [], _ => rfl
  | _ :: ps, k => congrArg (· + 1) (begsL_len ps _)
theorem endsL_len : ∀ (ps : List (List Int × Bool)) (k : Int), (endsL k ps).length ≤ ps.length
  | [], _ => Nat.le_refl 0
  | p :: ps, k => by
    have := endsL_len ps (k + p.1.length)
    unfold endsL
    split <;> simp only [List.length_cons] <;> omega
theorem row_bounds {n : Nat} {ps : List (List Int × Bool)} {wide sp : Str} {b : Bool} {bs es : List Value} {rr : List Itm} {a : Itm} (hn : n ≤ 8) (hlen : ps.length + (a :: rr).length = n) (hps : ∀ p ∈ ps, p ∈ tab) (hwd : codesOf wide = flat ps) (hbs : IntsAre bs (begsL 0 ps)) (hes : IntsAre es (endsL 0 ps)) (hp : (codesOf sp, b) ∈ tab) :
    wide.length ≤ 96 ∧ sp.length ≤ 12 ∧ bs.length ≤ 8 ∧ es.length ≤ 8 := by
  have h1 := flat_len hps
  have h2 : sp.length ≤ 12 := by
    have := (show ∀ p ∈ tab, p.1.length ≤ 12 by decide) _ hp
    rw [← codes_len]; exact this
  have h3 := hbs.length
  have h4 := hes.length
  have h5 := begsL_len ps 0
  have h6 := endsL_len ps 0
  rw [← hwd, codes_len] at h1
  simp only [List.length_cons] at hlen
  refine ⟨?_, h2, ?_, ?_⟩ <;> omega
theorem RowsJ.next {R : List (Addr × Obj)} {n : Nat} {B E : Addr} {a : Itm} {rr : List Itm} {ps : List (List Int × Bool)} {wide sp : Str} {b : Bool} {bs es es' : List Value} {m' : Str → Option Value} {t' : Tok} {tb : Tok} {nb ne : Nat}
    (hlen : ps.length + (a :: rr).length = n) (hps : ∀ p ∈ ps, p ∈ tab) (hwd : codesOf wide = flat ps) (hbs : IntsAre bs (begsL 0 ps)) (hes : IntsAre es (endsL 0 ps)) (hp : (codesOf sp, b) ∈ tab)
    (hx : ∀ x ∈ a :: rr, ∃ Dt s t b, x = .val (.ref Dt) ∧ (Dt, tupO s t b) ∈ R ∧ (codesOf s, b) ∈ tab)
    (he' : IntsAre es' (endsL 0 ps ++ (if b = true then [(wide.length : Int) + 1] else [])))
    (m1 : m' (Str.ofString "wide") = some (.str (wide ++ sp) t')) (m2 : m' (Str.ofString "begins") = some (.ref B)) (m3 : m' (Str.ofString "ends") = some (.ref E)) :
    RowsJ R n B E rr m' ((E, listOf (List.toArray es') ne) :: (B, listOf (List.toArray (bs ++ [.int (wide.length : Int) tb])) nb) :: R) := by
  have h1 : (flat ps).length = wide.length := by rw [← hwd, codes_len]
  refine ⟨ps ++ [(codesOf sp, b)], wide ++ sp, t', _, _, _, _, rfl, m1, m2, m3, ?_, ?_, ?_, ?_, ?_, fun x q => hx x (List.mem_cons_of_mem _ q)⟩
  · intro p hp'
    rcases List.mem_append.mp hp' with q | q
    · exact hps p q
    · rw [List.mem_singleton.mp q]; exact hp
  · simp only [List.length_append, List.length_cons, List.length_nil] at hlen ⊢; omega
  · rw [codes_append, hwd, flat_snoc]
  · rw [begsL_snoc, h1, Int.zero_add]; exact hbs.append (.cons _ _ .nil)
  · rw [endsL_snoc, h1, Int.zero_add]; exact he'
section
variable {prog : Program} {w : World} {A : Around} {E : Value → Shared → Prop} {s : Shared} {h₀ : Heap} {m : Str → Option Value} {env : Env}
def TextSrc (prog : Program) (w : World) (A : Around) (h₀ : Heap) (m : Str → Option Value) (env : Env) (elt : Expr) (x : Str) (scope : Scope) (cl : List (Str × Addr)) (y : Str) (Q : Flow → Shared → Prop) (xv : Value) (s₁ : Shared) : Prop :=
  ∃ tx t news, xv = .str tx t ∧ Fr h₀ env.locals s₁.heap m ∧ News h₀ env.locals s₁.heap news ∧ tx.cps.size ≤ sizeLine ∧
    ∀ g, LCg.CompRest prog w A h₀ env.locals m env elt x scope cl { s₁ with heap := g } (fun _ => True) (SignAt tx) (LCg.FinA h₀ env.locals m { s₁ with heap := g } y Q) tx.cps.size 0 [] news
theorem striter_obj {h : Heap} {I : Addr} {it : String} {tx : Str} {t : Tok} {i : Nat} (st : h.IsStrIter I it tx t i) : ∃ o, h.get? I = some o := let ⟨o, ho, _⟩ := st; ⟨o, ho⟩
theorem striter_same {h h' : Heap} {I : Addr} {it : String} {tx : Str} {t : Tok} {i : Nat} {o : Obj} (st : h.IsStrIter I it tx t i) (e : h.get? I = some o) (e' : h'.get? I = some o) : h'.IsStrIter I it tx t i := by
  obtain ⟨q, hq, r⟩ := st
  rw [e] at hq
  cases hq
  exact ⟨o, e', r⟩
theorem text_stored {y : Str} {py : Pos} {Q : Flow → Shared → Prop} {s₂ : Shared} (hy : env.kindOf y = some .local) (hp : (env.scope.kind == .class || (env.scope.kind == .module && env.locals != env.globals)) = false)
    {D C : Addr} {h' : Heap} {tk : Nat} {m' : Str → Option Value} {ys : List Value} {news' : List (Addr × Obj)} (F : Fr h₀ env.locals h' m) (N : News h₀ env.locals h' ((D, LCg.lst ys) :: news')) (o1 : LCg.Off1 D news') (hn : h'.Ns C m') (hC : h₀.get? C = none) (hCL : C ≠ env.locals) (hCD : C ≠ D) (off : ∀ p ∈ news', p.1 ≠ C)
    (fin : LCg.FinA h₀ env.locals m s₂ y Q ys news') : wpAny (model prog w) A (assign (.Name y py) env (.ref D)) (fun _ s₃ => ∃ m', s₃.heap.Ns C m' ∧ ∀ h'', Heap.SameBut C s₃.heap h'' → Q .next { s₃ with heap := h'' }) E { s₂ with heap := h', toks := tk } := by
  refine wpAny_assign_Name (wpAny_storeName_local hy F.ns (fun h₂ hn₂ hs₂ => ?_) hp)
  have hL₀ : h₀.get? env.locals = none := Heap.get?_none_of_le F.above
  have F₂ : Fr h₀ env.locals h₂ (fun z => if z = y then some (.ref D) else m z) := ⟨hn₂, fun b o e => hs₂.extBut b o (fun q => by rw [q, hL₀] at e; cases e) (F.keep b o e), F.above⟩
  refine ⟨m', hn.sameBut hs₂ hCL, fun h'' hs'' => fin D h'' _ (F₂.change hs'' hCL hC) (fun p hp => ?_) o1⟩
  have z : h₂.get? p.1 = some p.2 := hs₂.extBut _ _ (N p hp).2.1 (N p hp).1
  refine ⟨hs''.extBut _ _ ?_ z, (N p hp).2⟩
  rcases List.mem_cons.mp hp with rfl | hp
  · exact Ne.symm hCD
  · exact off p hp
theorem assign_comp_text {elt iter : Expr} {x y : Str} {px py : Pos} {scope : Scope} {cl : List (Str × Addr)} {pos spos : Pos} {Q : Flow → Shared → Prop} (_ : Fr h₀ env.locals s.heap m) (hh : A.handled = none)
    (hsw : swapsWith (.ListComp elt [⟨.Name x px, iter, [], 0⟩] scope pos) (some (.Name y py)) spos.line env = pure true)
    (hclos : closureFor scope env = pure cl) (hcell : ∀ z ∈ scope.names, z.2 ≠ .cell) (hkind : scope.kind = .function)
    (hnames : ∀ z ∈ scope.names, z.2 = .local → scope.names.lookup z.1 = some .local) (hx : scope.names.lookup x = some .local)
    (hy : env.kindOf y = some .local) (hp : (env.scope.kind == .class || (env.scope.kind == .module && env.locals != env.globals)) = false)
    (h : wpAny (model prog w) A (eval iter env) (TextSrc prog w A h₀ m env elt x scope cl y Q) E s)
    (hs : ∀ x, foldedSetIterable iter env x = pure x := by intro _; rfl) :
    wpAny (model prog w) A (exec (.Assign [.Name y py] (.ListComp elt [⟨.Name x px, iter, [], 0⟩] scope pos) spos) env) Q E s := by
  rw [exec_Assign_Name_used _ _ _ _ hsw]
  refine wpAny_bind (wpAny_standAt (wpAny_bind ?_))
  show wpAny _ A (do let _ ← comprehension (.ListComp elt [⟨.Name x px, iter, [], 0⟩] scope pos) scope env _ (newList []) false (eval iter env) (some (assign (.Name y py) env))) _ _ s
  refine wpAny_bind (wpAny_mono (wpAny_comprehension_free (use := some (assign (.Name y py) env)) (Q := fun _ s' => Q .next s') rfl hs hclos hkind hnames
    (wpAny_mono h (fun xv s₁ h₁ => ?_) fun _ _ e => e)) (fun _ s' hq => wpAny_pure (wpAny_pure hq)) fun _ _ e => e)
  obtain ⟨tx, t, news, rfl, F, N, hsz, R⟩ := h₁
  cases ha : tx.cps.all (· < 128)
  · refine wpAny_pyIter_wide ha (LCg.block_U (Walks.strWide hh s₁.heap.objs.size tx t) hsz (fun _ _ st => striter_obj st) (fun _ _ _ _ _ st e e' _ _ _ => striter_same st e e') hcell hkind hx ⟨_, Heap.get?_push_size _ rfl, rfl, rfl⟩ (fun b hb => ?_)
      (F.keeps fun _ _ e => Heap.get?_push_of_some _ e) (N.grown fun _ _ e => Heap.get?_push_of_some _ e) (Nat.ne_of_lt F.ns.lt) (next_is_new F) (fun p hp => Nat.ne_of_lt (Heap.lt_size (N p hp).1)) trivial (R _) ?_)
    · rw [List.mem_singleton.mp hb]
      show s₁.heap.objs.size < (s₁.heap.push _).objs.size
      rw [Heap.size_push]; exact Nat.lt_succ_self _
    · intro D C h' tk m' ys news' F' N' o1 hn hC _ hCL _ hCD off fin
      exact text_stored hy hp F' N' o1 hn hC hCL hCD off fin
  · refine wpAny_pyIter_ascii ha (LCg.block_U (Walks.strAscii hh s₁.heap.objs.size tx t) hsz (fun _ _ st => striter_obj st) (fun _ _ _ _ _ st e e' _ _ _ => striter_same st e e') hcell hkind hx ⟨_, Heap.get?_push_size _ rfl, rfl, rfl⟩ (fun b hb => ?_)
      (F.keeps fun _ _ e => Heap.get?_push_of_some _ e) (N.grown fun _ _ e => Heap.get?_push_of_some _ e) (Nat.ne_of_lt F.ns.lt) (next_is_new F) (fun p hp => Nat.ne_of_lt (Heap.lt_size (N p hp).1)) trivial (R _) ?_)
    · rw [List.mem_singleton.mp hb]
      show s₁.heap.objs.size < (s₁.heap.push _).objs.size
      rw [Heap.size_push]; exact Nat.lt_succ_self _
    · intro D C h' tk m' ys news' F' N' o1 hn hC _ hCL _ hCD off fin
      exact text_stored hy hp F' N' o1 hn hC hCL hCD off fin
theorem codes_rest {L : Addr} {elt : Expr} {x : Str} {scope : Scope} {cl : List (Str × Addr)} {S : List (Addr × Obj) → Prop} {Fin : List Value → List (Addr × Obj) → Prop} {news : List (Addr × Obj)} {tx : Str}
    (turn : ∀ (c : Nat) u I oI C oC D m₂ ys h tk (E' : Value → Shared → Prop), c ∈ tx.cps.toList → LCg.NsObj oC m₂ → m₂ x = some (.str ⟨#[c]⟩ u) → Fr h₀ L h m → News h₀ L h ((I, oI) :: (C, oC) :: (D, LCg.lst ys) :: news) → LCg.Off3 I C D news → ((@Ne Nat I C) ∧ (@Ne Nat I D) ∧ (@Ne Nat C D)) →
      wpAny (model prog w) A (eval elt (compEnvC scope cl C env)) (LCg.CompEnd h₀ L m { s with heap := h, toks := tk } I oI C oC D (LCg.lst ys) S (fun y news' => KCfEl news (Int.ofNat c) y news')) E' { s with heap := h, toks := tk })
    (fin : ∀ ys, IntsAre ys (codesOf tx) → Fin ys news) : LCg.CompRest prog w A h₀ L m env elt x scope cl s S (SignAt tx) Fin tx.cps.size 0 [] news := by
  have hsz : tx.cps.size = tx.cps.toList.length := by simp
  have key : ∀ (j i : Nat) (ys : List Value), i + j = tx.cps.size → IntsAre ys ((tx.cps.toList.take i).map Int.ofNat) → LCg.CompRest prog w A h₀ L m env elt x scope cl s S (SignAt tx) Fin j i ys news := by
    intro j
    induction j with
    | zero =>
      intro i ys hi hy
      rw [List.take_of_length_le (by omega)] at hy
      exact LCg.CompRest.zero (fin ys hy)
    | succ j ih =>
      intro i ys hi hy
      refine LCg.CompRest.succ ?_
      intro v I oI C oC D m₂ h tk E' hv hC hx F N off ne
      obtain ⟨c, u, hc, hv'⟩ := hv
      have hc' : tx.cps.toList[i]? = some c := by simpa using hc
      rw [hv'] at hx
      refine wpAny_mono (turn c u I oI C oC D m₂ ys h tk E' (List.mem_of_getElem? hc') hC hx F N off ne) (fun y s₂ hq => ?_) fun _ _ e => e
      obtain ⟨h', tk', nw, e, F', N', off', hS, hn, t', hy'⟩ := hq
      rw [hn] at N' off' hS
      refine ⟨h', tk', news, e, F', N', off', hS, ?_⟩
      rw [hy']
      refine ih (i + 1) _ (by omega) ?_
      rw [List.take_add_one, hc']
      simpa using IntsAre.append hy (.cons (Int.ofNat c) t' .nil)
  exact key _ 0 [] (by omega) (by simp only [List.take_zero, List.map_nil]; exact .nil)
end
theorem with_all {h₀ h : Heap} {L : Addr} {rest : List (Addr × Obj)} {P : Prop} (_ : News h₀ L h rest) (k : ∀ r, r = rest → P) : P := k _ rfl
def AtsJ (R : List (Addr × Obj)) (Z B E : Addr) (wide : Str) (twide : Tok) (xs : List Itm) (m : Str → Option Value) (news : List (Addr × Obj)) : Prop :=
  R = news ∧ m (Str.ofString "codes") = some (.ref Z) ∧ m (Str.ofString "wide") = some (.str wide twide) ∧ m (Str.ofString "begins") = some (.ref B) ∧ m (Str.ofString "ends") = some (.ref E) ∧
    ∀ x ∈ xs, ∃ k t, x = .val (.int k t) ∧ 0 ≤ k ∧ k ≤ (wide.length : Int) + 5
theorem fr_named4 {h₀ h : Heap} {L : Addr} {m : Str → Option Value} {x1 x2 x3 x4 : Str} {v1 v2 v3 v4 : Value} (e1 : m x1 = some v1) (e2 : m x2 = some v2) (e3 : m x3 = some v3) (e4 : m x4 = some v4) (F : Fr h₀ L h m) : Fr h₀ L h (fun z => if z = x4 then some v4 else if z = x3 then some v3 else if z = x2 then some v2 else if z = x1 then some v1 else m z) := by
  have F2 := fr_named3 e1 e2 e3 F
  have : (fun z => if z = x4 then some v4 else if z = x3 then some v3 else if z = x2 then some v2 else if z = x1 then some v1 else m z) = (fun z => if z = x3 then some v3 else if z = x2 then some v2 else if z = x1 then some v1 else m z) := by
    funext z
    by_cases q4 : z = x4
    · rw [if_pos q4, q4]
      by_cases q3 : x4 = x3
      · rw [if_pos q3, ← e4, q3, e3]
      · rw [if_neg q3]
        by_cases q2 : x4 = x2
        · rw [if_pos q2, ← e4, q2, e2]
        · rw [if_neg q2]
          by_cases q1 : x4 = x1
          · rw [if_pos q1, ← e4, q1, e1]
          · rw [if_neg q1, e4]
    · rw [if_neg q4]
  rw [this]; exact F2
theorem slice_take (x : Str) (k : Int) (h : 0 ≤ k) : (Txt.slice x none (some k)).cps.toList = x.cps.toList.take k.toNat := by
  have e := eq_of_beq (slice_to_min_closes (x := x) h rfl)
  rw [e]
  show ((x.cps.toList.drop 0).take _).toArray.toList = _
  have hl : x.length = x.cps.toList.length := by show x.cps.size = _; simp
  rw [List.drop_zero]
  show List.take _ x.cps.toList = _
  by_cases q : (x.length : Int) < k
  · rw [if_pos q, List.take_of_length_le (by omega), List.take_of_length_le (by omega)]
  · rw [if_neg q]; simp
theorem split_place {wide : Str} {k px py : Int} {ss : List Str} (h0 : 0 ≤ k) (hpl : placeOf (codesOf wide) k = (px, py)) (hl : ss = Txt.split (Txt.slice wide none (some k)) (Str.ofString "\n")) :
    (ss.length : Int) = px ∧ ((ss.getD (-1 + (ss.length : Int)).toNat PySem.Str.empty).length : Int) + 1 = py := by
  have e1 : Str.ofString "\n" = ⟨#[10]⟩ := by decide +kernel
  rw [e1] at hl
  have h1 := place_split (Txt.slice wide none (some k))
  have h2 := place_front wide.cps.toList k.toNat
  rw [show ((k.toNat : Nat) : Int) = k by omega] at h2
  have h3 : placeOf (codesOf wide) k = _ := h2
  rw [hpl, ← slice_take wide k h0, h1] at h3
  have h4 := congrArg Prod.fst h3
  have h5 := congrArg Prod.snd h3
  dsimp only at h4 h5
  rw [← hl] at h4
  have hpos : 0 < ss.length := by rw [hl]; exact List.length_pos_iff.mpr (split_ne _ _)
  subst hl
  refine ⟨h4.symm, ?_⟩
  rw [h5, show (-1 + ((Txt.split (Txt.slice wide none (some k)) ⟨#[10]⟩).length : Int)).toNat = (Txt.split (Txt.slice wide none (some k)) ⟨#[10]⟩).length - 1 by omega]
  congr 2
  rw [List.getLast_eq_getElem, List.getD_eq_getElem?_getD, List.getElem?_eq_getElem]
  rfl
theorem AtsJ.next {h₀ : Heap} {L : Addr} {s₁ : Shared} {its k all R : List (Addr × Obj)} {h' : Heap} {tk : Nat} {m' : Str → Option Value} {Z B E : Addr} {wide : Str} {twide : Tok} {a : Itm} {rr : List Itm} (F : Fr h₀ L h' m') (N : News h₀ L h' all) (hI : SubL its all) (hS : SubL R all) (off : OffW its R) (hK : SubL k R)
    (hx : ∀ x ∈ a :: rr, ∃ k t, x = .val (.int k t) ∧ 0 ≤ k ∧ k ≤ (wide.length : Int) + 5)
    (m1 : m' (Str.ofString "codes") = some (.ref Z)) (m2 : m' (Str.ofString "wide") = some (.str wide twide)) (m3 : m' (Str.ofString "begins") = some (.ref B)) (m4 : m' (Str.ofString "ends") = some (.ref E)) :
    UnrEndW h₀ L s₁ its (fun m' n' => SubL k n' ∧ AtsJ R Z B E wide twide rr m' n') { s₁ with heap := h', toks := tk } :=
  UnrEndW.intro F N R hI hS off ⟨hK, rfl, m1, m2, m3, m4, fun x q => hx x (List.mem_cons_of_mem _ q)⟩
theorem endsL_append : ∀ (a b : List (List Int × Bool)) (k : Int), endsL k (a ++ b) = endsL k a ++ endsL (k + (flat a).length) b
  | [], b, k => by simp [endsL, flat]
  | p :: a, b, k => by
    have e : k + ((flat (p :: a)).length : Int) = k + p.1.length + (flat a).length := by rw [flat_cons, List.length_append]; push_cast; omega
    rw [e]
    show (if p.2 then (k + 1) :: endsL (k + p.1.length) (a ++ b) else endsL (k + p.1.length) (a ++ b)) = (if p.2 then (k + 1) :: endsL (k + p.1.length) a else endsL (k + p.1.length) a) ++ _
    rw [endsL_append a b]
    cases p.2 <;> simp
theorem endsL_low : ∀ (a : List (List Int × Bool)) (k : Int), (∀ p ∈ a, 1 ≤ p.1.length) → ∀ e ∈ endsL k a, e ≤ k + (flat a).length
  | [], _, _, e, he => by simp [endsL] at he
  | p :: a, k, h, e, he => by
    have hp := h p List.mem_cons_self
    have ih := endsL_low a (k + p.1.length) (fun q hq => h q (List.mem_cons_of_mem _ hq)) e
    have q : ((flat (p :: a)).length : Int) = p.1.length + (flat a).length := by rw [flat_cons, List.length_append]; push_cast; rfl
    unfold endsL at he
    cases hb : p.2 <;> rw [hb] at he
    · have := ih he; omega
    · rcases List.mem_cons.mp he with rfl | he
      · omega
      · have := ih he; omega
theorem endsL_high : ∀ (a : List (List Int × Bool)) (k : Int), ∀ e ∈ endsL k a, k < e
  | [], _, e, he => by simp [endsL] at he
  | p :: a, k, e, he => by
    have ih := endsL_high a (k + p.1.length) e
    unfold endsL at he
    cases hb : p.2 <;> rw [hb] at he
    · have := ih he; omega
    · rcases List.mem_cons.mp he with rfl | he
      · omega
      · have := ih he; omega
theorem ends_filter {done todo : List (List Int × Bool)} (h : ∀ p ∈ done ++ todo, p ∈ tab) : (endsL 0 (done ++ todo)).filter (fun n => decide (((flat done).length : Int) < n)) = endsL ((flat done).length : Int) todo := by
  have h1 : ∀ p ∈ done, 1 ≤ p.1.length := fun p hp => (show ∀ p ∈ tab, 1 ≤ p.1.length by decide) p (h p (List.mem_append_left _ hp))
  rw [endsL_append, Int.zero_add, List.filter_append]
  have e1 : (endsL 0 done).filter (fun n => decide (((flat done).length : Int) < n)) = [] := by
    rw [List.filter_eq_nil_iff]
    intro e he
    have := endsL_low done 0 h1 e he
    simp only [decide_eq_true_eq]; omega
  have e2 : (endsL ((flat done).length : Int) todo).filter (fun n => decide (((flat done).length : Int) < n)) = endsL ((flat done).length : Int) todo := by
    rw [List.filter_eq_self]
    intro e he
    have := endsL_high todo _ e he
    simpa using this
  rw [e1, e2, List.nil_append]
theorem due_head : ∀ (todo : List (List Int × Bool)) (k : Int), (endsL k todo ++ [k + (flat todo).length]).getD 0 0 = k + dueL todo
  | [], k => by simp [endsL, flat, dueL]
  | p :: a, k => by
    have ih := due_head a (k + p.1.length)
    have q : k + ((flat (p :: a)).length : Int) = k + p.1.length + (flat a).length := by rw [flat_cons, List.length_append]; push_cast; omega
    rw [q]
    unfold endsL dueL
    cases p.2
    · simp only [Bool.false_eq_true, if_false]
      rw [ih]; push_cast; omega
    · simp
def BegJ (Z : Addr) (zs : List Value) (E : Addr) (es : List Value) (ne : Nat) (B : Addr) (bs : List Value) (nb : Nat) (c : Addr) (wide : Str) (twide : Tok) (ps : List (List Int × Bool)) (xs : List Itm) (m : Str → Option Value) (news : List (Addr × Obj)) : Prop :=
  ∃ (o : Obj) (vo : Option Value) (done todo : List (List Int × Bool)) (vs : List Value), o.data = .cell vo ∧ news = [(Z, listOf zs.toArray zs.length), (E, listOf es.toArray ne), (B, listOf bs.toArray nb), (c, o)] ∧
    m (Str.ofString "codes") = some (.ref Z) ∧ m (Str.ofString "wide") = some (.str wide twide) ∧ m (Str.ofString "ends") = some (.ref E) ∧ ps = done ++ todo ∧ xs = vs.map .val ∧ IntsAre vs (begsL ((flat done).length : Int) todo)
theorem BegJ.open {Z : Addr} {zs : List Value} {E : Addr} {es : List Value} {ne : Nat} {B : Addr} {bs : List Value} {nb : Nat} {c : Addr} {wide : Str} {twide : Tok} {ps : List (List Int × Bool)} {a : Itm} {rr : List Itm} {m : Str → Option Value} {news : List (Addr × Obj)}
    (h : BegJ Z zs E es ne B bs nb c wide twide ps (a :: rr) m news) : ∃ (o : Obj) (vo : Option Value) (done : List (List Int × Bool)) (p : List Int × Bool) (todo : List (List Int × Bool)) (vs : List Value) (t : Tok), o.data = .cell vo ∧ news = [(Z, listOf zs.toArray zs.length), (E, listOf es.toArray ne), (B, listOf bs.toArray nb), (c, o)] ∧
    m (Str.ofString "codes") = some (.ref Z) ∧ m (Str.ofString "wide") = some (.str wide twide) ∧ m (Str.ofString "ends") = some (.ref E) ∧ ps = done ++ p :: todo ∧ a = .val (.int ((flat done).length : Int) t) ∧ rr = vs.map .val ∧ IntsAre vs (begsL ((flat (done ++ [p])).length : Int) todo) := by
  obtain ⟨o, vo, done, todo, vs, h1, h2, h3, h4, h5, h6, h7, h8⟩ := h
  cases vs with
  | nil => simp at h7
  | cons v vs =>
    obtain ⟨h7a, h7b⟩ := List.cons.inj h7
    cases todo with
    | nil => cases h8
    | cons p todo =>
      unfold begsL at h8
      cases h8 with
      | cons _ t h8 =>
        refine ⟨o, vo, done, p, todo, vs, t, h1, h2, h3, h4, h5, h6, h7a, h7b, ?_⟩
        rw [flat_snoc, List.length_append]; push_cast; exact h8
theorem BegJ.next {h₀ : Heap} {L : Addr} {s₁ : Shared} {its all : List (Addr × Obj)} {h' : Heap} {tk : Nat} {m' : Str → Option Value} {Z : Addr} {zs : List Value} {E : Addr} {es : List Value} {ne : Nat} {B : Addr} {bs : List Value} {nb : Nat} {c : Addr} {wide : Str} {twide : Tok} {ps : List (List Int × Bool)} {vs : List Value}
    {o : Obj} {vo : Option Value} {done todo : List (List Int × Bool)} {p : List Int × Bool} (F : Fr h₀ L h' m') (N : News h₀ L h' all) (hI : SubL its all) (hS : SubL [(Z, listOf zs.toArray zs.length), (E, listOf es.toArray ne), (B, listOf bs.toArray nb), (c, o)] all) (off : OffW its [(Z, listOf zs.toArray zs.length), (E, listOf es.toArray ne), (B, listOf bs.toArray nb), (c, o)])
    (ho : o.data = .cell vo) (hp : ps = done ++ p :: todo) (hvs : IntsAre vs (begsL ((flat (done ++ [p])).length : Int) todo))
    (m1 : m' (Str.ofString "codes") = some (.ref Z)) (m2 : m' (Str.ofString "wide") = some (.str wide twide)) (m3 : m' (Str.ofString "ends") = some (.ref E)) :
    UnrEndW h₀ L s₁ its (fun m' n' => SubL [(B, listOf bs.toArray nb)] n' ∧ BegJ Z zs E es ne B bs nb c wide twide ps (vs.map .val) m' n') { s₁ with heap := h', toks := tk } :=
  UnrEndW.intro F N _ hI hS off ⟨⟨.tail _ (.tail _ (.head _)), trivial⟩, o, vo, done ++ [p], todo, vs, ho, rfl, m1, m2, m3, by rw [hp, List.append_assoc]; rfl, rfl, hvs⟩
section
variable {prog : Program} {w : World} {A : Around} {s : Shared} {h₀ : Heap} {L : Addr} {m : Str → Option Value} {env : Env}
theorem ends_rest {ct elt : Expr} {x : Str} {scope : Scope} {cl : List (Str × Addr)} {S : List (Addr × Obj) → Prop} {Fin : List Value → List (Addr × Obj) → Prop} {news : List (Addr × Obj)} {vs : List Value} {ns : List Int} {k : Int} (hi : IntsAre vs ns)
    (turn : ∀ (n : Int) t I oI C oC D m₂ ys h tk (E' : Value → Shared → Prop), LCg.NsObj oC m₂ → m₂ x = some (.int n t) → Fr h₀ L h m → News h₀ L h ((I, oI) :: (C, oC) :: (D, LCg.lst ys) :: news) → LCg.Off3 I C D news → ((@Ne Nat I C) ∧ (@Ne Nat I D) ∧ (@Ne Nat C D)) →
      wpAny (model prog w) A (isTrue ct (compEnvC scope cl C env) (eval ct (compEnvC scope cl C env))) (fun ok s' => if ok = true then
        wpAny (model prog w) A (eval elt (compEnvC scope cl C env)) (LCg.CompEnd h₀ L m { s with heap := h, toks := tk } I oI C oC D (LCg.lst ys) S (fun y news' => news' = news ∧ k < n ∧ ∃ t, y = .int n t)) E' s'
        else LCg.CompEnd h₀ L m { s with heap := h, toks := tk } I oI C oC D (LCg.lst ys) S (fun _ news' => news' = news ∧ ¬ k < n) Value.none s') E' { s with heap := h, toks := tk })
    (fin : ∀ ys, IntsAre ys (ns.filter (fun n => decide (k < n))) → Fin ys news) : LCt.CompRestT prog w A h₀ L m env ct elt x scope cl s S (fun i v => vs.toArray[i]? = some v) Fin vs.toArray.size 0 [] news := by
  have hl := hi.length
  have key : ∀ (j i : Nat) (ys : List Value), i + j = vs.length → IntsAre ys ((ns.take i).filter (fun n => decide (k < n))) → LCt.CompRestT prog w A h₀ L m env ct elt x scope cl s S (fun i v => vs.toArray[i]? = some v) Fin j i ys news := by
    intro j
    induction j with
    | zero =>
      intro i ys hi hy
      rw [List.take_of_length_le (by omega)] at hy
      exact LCt.CompRestT.zero (fin ys hy)
    | succ j ih =>
      intro i ys hi' hy
      refine LCt.CompRestT.succ ?_
      intro v I oI C oC D m₂ h tk E' hv hC hx F N off ne
      obtain ⟨n, t, hv', hn⟩ := IntsAre.at hi i v (by simpa using hv)
      rw [hv'] at hx
      have htk : (ns.take (i + 1)).filter (fun n => decide (k < n)) = (ns.take i).filter (fun n => decide (k < n)) ++ (if k < n then [n] else []) := by
        rw [List.take_add_one, hn, List.filter_append]
        congr 1
        by_cases q : k < n <;> simp [q]
      refine wpAny_mono (turn n t I oI C oC D m₂ ys h tk E' hC hx F N off ne) (fun ok s' hq => ?_) fun _ _ e => e
      cases ok with
      | true =>
        rw [if_pos rfl] at hq ⊢
        refine wpAny_mono hq (fun y s₂ hq => ?_) fun _ _ e => e
        obtain ⟨h', tk', nw, e, F', N', off', hS, hnw, hk, t', hy'⟩ := hq
        rw [hnw] at N' off' hS
        refine ⟨h', tk', news, e, F', N', off', hS, ?_⟩
        rw [hy']
        refine ih (i + 1) _ (by omega) ?_
        rw [htk, if_pos hk]
        exact hy.append (.cons n t' .nil)
      | false =>
        rw [if_neg (by decide)] at hq ⊢
        obtain ⟨h', tk', nw, e, F', N', off', hS, hnw, hk⟩ := hq
        rw [hnw] at N' off' hS
        refine ⟨h', tk', news, e, F', N', off', hS, ?_⟩
        refine ih (i + 1) _ (by omega) ?_
        rw [htk, if_neg hk, List.append_nil]
        exact hy
  rw [List.size_toArray]
  exact key _ 0 [] (by omega) (by simp only [List.take_zero, List.filter_nil]; exact .nil)
end
theorem flat_append (a b : List (List Int × Bool)) : flat (a ++ b) = flat a ++ flat b := by unfold flat; simp
theorem beg_facts {wide : Str} {ps done todo : List (List Int × Bool)} {kb : Int} (hps : ∀ p ∈ ps, p ∈ tab) (hwd : codesOf wide = flat ps) (hpt : ps = done ++ todo) (hkb : kb = ((flat done).length : Int)) :
    Clause (codesOf wide) kb (kb + dueL todo) ∧ (wide.length : Int) = kb + (flat todo).length := by
  subst hpt
  have h1 : (wide.length : Int) = kb + (flat todo).length := by rw [← codes_len, hwd, flat_append, List.length_append, hkb]; push_cast; rfl
  refine ⟨flat_clause (fun p hp => hps p (List.mem_append_right _ hp)) (codesOf wide) kb (by omega) ?_ ?_, h1⟩
  · rw [hwd, flat_append, hkb, Int.toNat_natCast, List.drop_left]
  · rw [codes_len]; omega
theorem room12 : callerA.depth + 1 + 12 < recursionLimit := by decide
theorem room36 : callerA.depth + 1 + 36 < recursionLimit := by decide
theorem unit12 : callerA.units + 3 + 8 * 12 < cLine := by rw [cLine_is]; decide
theorem unit36 : callerA.units + 3 + 8 * 36 < cLine := by rw [cLine_is]; decide
section
variable {prog : Program} {w : World} {A : Around} {E : Value → Shared → Prop} {s : Shared} {h₀ : Heap} {L l : Addr} {news : List (Addr × Obj)} {vs : List Value} {Q : Value → Shared → Prop}
theorem len_strs {n : Nat} (N : News h₀ L s.heap news) (hm : (l, ({ cls := .type "list", data := .seq vs.toArray } : Obj)) ∈ news) (hn : vs.length = n) (h2 : n ≤ 201) (h : ∀ t tk, Q (.int (n : Int) t) { s with toks := tk }) :
    wpAny (model prog w) A (call (.builtin "len") [.ref l]) Q E s := by
  subst hn
  refine len_list (items := vs.toArray) ⟨_, (N _ hm).1, rfl, _, rfl⟩ (by rw [List.size_toArray]; omega) ?_
  rw [List.size_toArray]
  exact h _ _
theorem last_strs {ss : List Str} {value slice : Expr} {u : Tok} (N : News h₀ L s.heap news) (hm : (l, ({ cls := .type "list", data := .seq vs.toArray } : Obj)) ∈ news) (hi : StrsAre vs ss) (h1 : 1 ≤ ss.length) (h : ∀ t, Q (.str (ss.getD (-1 + (ss.length : Int)).toNat PySem.Str.empty) t) s)
    (hs : subscripted slice false (.ref l) (.int (-1) u) = operate [.ref l, .int (-1) u] (getItem (.ref l) (.int (-1) u)) := by with_unfolding_all rfl) :
    wpAny (model prog w) A (subscriptTail value slice (.ref l) (.int (-1) u)) Q E s :=
  item_strs_negR ⟨_, (N _ hm).1, rfl, _, rfl⟩ hi (by decide) (by omega) (by decide) h hs
end


set_option rowWalk.seconds 0
theorem fill9 : (fun (p : Params) => Mine.hd.heap_39 p) = (fun p => Mine.hd.heap_39 p) ∧ PySem.Challenge.rw_rr0019_01 = PySem.Challenge.rw_rr0019_01 := by
  k_fill
  exact ⟨rfl, rfl⟩
theorem law_holds : PySem.Challenge.rw_rr0019_01.Holds := Mine.hd (by
  w_strict (k_go0; (all_goals try k_fold); k_steps)
  rename_i x0 x1 x2 x3 x4 x5 x6 x7 x8 x9 x10 x11 x12 x13 x14 x15 x16 x17 x18 x19 x20 x21 x22 x23 x24 x25 x26 x27 x28 x29 x30 x31 x32 x33 x34 x35 x36 x37 x38 x39 x40 x41 x42 x43 x44 x45 x46 x47 x48 x49 x50 x51 x52 x53 x54 x55 x56 x57 x58 x59 x60 x61 x62 x63 x64 x65 x66 x68 x69 x70 x71 x72 x73 x74 x75 x76 x77 x78 x79 x80 x81 x82 x83 x84 x85 x86 x87 x88 x89 x90 x91 x92 x93 x94 x95 x96 x97 x98 x99 x100 x101 x102 x103 x104 x105 x106 x107 x108 x109 x110 x111 x112 x113 x114 x115 x116 x117 x118 x119 x120 x121 x122 x123 x125 y0 y1 y2 y3 y4 y5 y6 y7 y8 y9 y10 y11 y12 y13 y14 y15 y16 y17 y18 y19 y20 y21 y22 y23 y24 y25 xF xN y26
  have lawM : LawMark := trivial
  dsimp only [qk, ek]
  clear qk ek x47 x6
  dsimp only at x26
  (obtain ⟨m9, F9⟩ : ∃ m9, Fr _ _ _ m9 := ⟨_, xF⟩)
  obtain ⟨v0b, hv0b⟩ : ∃ v, x50.data = Data.cell v := ⟨_, x53⟩
  obtain ⟨cs, hcs, hcl, hcl2⟩ : ∃ cs, IntsAre x87 cs ∧ 12 ≤ cs.length ∧ cs.length ≤ 24 := ⟨_, x89, by simp only [List.length_append, List.length_map]; rw [x82]; have := List.length_take_le 12 x27; omega, by simp only [List.length_append, List.length_map]; rw [x82]; have := List.length_take_le 12 x27; omega⟩
  have N9 := news_cut 18 22 xN
  simp only [List.take_succ_cons, List.take_zero, List.drop_succ_cons, List.drop_zero, List.cons_append, List.nil_append] at N9
  clear xF xN x53 x54 x55 x56 x60 x61 x62 x63 x64 x65 x68 x69 x73 x76 x79 x81 x82 x83 x84 x85 x89 x90 x97 x100 x103 x106 x109 x112 x115 x118
  iterate 21 walk1
  rename_i y27 y28 y29 y30 y31 y32 y33 y34 y35 y36 y37 y38 y39 y40 y41 y42
  clear x121 y2 y5 y8 y11 y14 y17 y20 y23 y26 y42
  k_fmods
  kcf_lens
  refine LCg.CompSrc.range (by rfl) y40 y41 y39 (by exact small_one (by kcf_bnd) (by kcf_bnd) (by kcf_bnd) (by kcf_bnd)) (by exact rangeSize_nat _ _) (by rw [PySem.sizeLine_eq]; omega) ?_
  clear y39 y30 y31
  intro g9
  refine rows_rest [.ref x95, .ref x98, .ref x101, .ref x104, .ref x107, .ref x110, .ref x113, .ref x116, .ref y0, .ref y3, .ref y9, .ref y12, .ref y15, .ref y18, .ref y21] ?turn ?fin
  case turn =>
    intro k t I oI C oC D m₂ ys h tk E' hlo hhi hC hx F N off ne
    simp only [LCg.Off3, and_true] at off
    iterate 12 walk1
    have q1 := fmod_lo (cs.getD (2 + k).toNat 0) (n := 15) (by decide)
    have q2 := fmod_hi (cs.getD (2 + k).toNat 0) (n := 15) (by decide)
    refine pick_list N (its := [.ref x95, .ref x98, .ref x101, .ref x104, .ref x107, .ref x110, .ref x113, .ref x116, .ref y0, .ref y3, .ref y9, .ref y12, .ref y15, .ref y18, .ref y21]) (n := 1) (by k_mem) q1 q2 (by omega) ?_
    intro y9 hy9
    refine LCg.CompEnd.intro F N _ (fun p hp => hp) ?_ trivial ⟨rfl, hy9⟩
    simp only [LCg.Off3, and_true]; exact off
  case fin =>
    intro ys hys hin
    have hys8 : ys.length ≤ 8 := by omega
    have hys1 : 1 ≤ ys.length := by omega
    unfold LCg.FinA
    intro D h tk5 F N o1
    simp only [LCg.Off1, and_true] at o1
    have N9 := news_cut 1 2 N
    have N8 := news_cut 8 9 N9
    have N7 := news_cut 18 19 N8
    simp only [List.take_succ_cons, List.take_zero, List.drop_succ_cons, List.drop_zero, List.cons_append, List.nil_append] at N7
    clear N N9 N8 y40 y41 hys
    dsimp only
    iterate 18 walk1
    rename_i z0 B z2 l1B z4 E z6 l1E z8 F2 N2
    clear o1
    refine with_rest N2 ?_
    intro R hR
    refine For_turns F2 ?_
    walk1
    refine iter_listTurns (by rfl) F2 N2 (by k_mem) rfl rfl ?_
    intro I hI
    k_lt hI
    refine items_inv (RowsJ R ys.length B E) ?step ?fin _ _ _ ?init
    case init =>
      refine ⟨[], Str.ofString "", _, [], [], 0, 0, by rw [hR], rfl, rfl, rfl, fun p hp => (nomatch hp), by simp, by decide +kernel, .nil, .nil, ?_⟩
      intro x hx
      obtain ⟨v, hv, rfl⟩ := List.mem_map.mp hx
      have hv2 := hin v hv
      subst hR
      simp only [List.mem_cons, List.not_mem_nil, or_false] at hv2
      rcases hv2 with rfl | rfl | rfl | rfl | rfl | rfl | rfl | rfl | rfl | rfl | rfl | rfl | rfl | rfl | rfl
      all_goals (refine' rowFact ?m1 ?m2; (case m1 => (repeat (first | exact List.mem_cons_self | refine List.mem_cons_of_mem _ ?_))); (case m2 => decide +kernel))
    case step =>
      intro a rr m news v h tk hJ hv F
      obtain ⟨ps, wide, t, bs, es, nb, ne, rfl, hw, hb, he, hps, hlen, hwd, hbs, hes, hx⟩ := hJ
      obtain ⟨Dt, sp, tt, b, rfl, hDt, hp⟩ := hx a List.mem_cons_self
      have hv : v = .ref Dt := hv
      subst hv
      refine AllObj.cons fun oI hcI => AllObj.nil fun N => ?_
      dsimp only at hcI
      have N3 : News x2.heap x2.heap.objs.size h _ := news_put N (List.mem_append_right _ (List.mem_cons_of_mem _ (List.mem_cons_of_mem _ hDt)))
      have F3 : Fr x2.heap x2.heap.objs.size h _ := fr_named3 hw hb he F
      obtain ⟨hw1, hw2, hzb, hze⟩ := row_bounds hys8 hlen hps hwd hbs hes hp
      subst hR

      simp only [tupO, List.cons_append, List.nil_append] at N3
      clear F N F2 N2
      iterate 8 walk1
      (rename News _ _ _ _ => N4)
      have N5 := news_tail N4
      clear N4 hv
      iterate 26 walk1
      iterate 2 walk1
      cases b
      · iterate 6 walk1
        refine RowsJ.next hlen hps hwd hbs hes hp hx ?_ rfl rfl rfl
        simpa using hes
      · iterate 25 walk1
        refine RowsJ.next hlen hps hwd hbs hes hp hx ?_ rfl rfl rfl
        exact hes.append (.cons _ _ .nil)
    case fin =>
      intro m news h tk hJ F N
      obtain ⟨ps, wide, twide, bs, es, nb, ne, rfl, hw, hb, he, hps, hlen, hwd, hbs, hes, -⟩ := hJ
      have F3 : Fr x2.heap x2.heap.objs.size h _ := fr_named3 hw hb he F
      have N3 : News x2.heap x2.heap.objs.size h _ := N
      clear F N
      subst hR
      have hps8 : ps.length ≤ 8 := by simp only [List.length_nil] at hlen; omega
      have hps1 : 1 ≤ ps.length := by simp only [List.length_nil] at hlen; omega
      have hwl : wide.length ≤ 96 := by have := flat_len hps; rw [← hwd, codes_len] at this; omega
      have hbl : bs.length ≤ 8 := by have := hbs.length; rw [begsL_len] at this; omega
      have hel : es.length ≤ 8 := by have h3 := hes.length; have h4 := endsL_len ps 0; omega
      have N4 := news_cut 2 18 N3
      simp only [List.take_succ_cons, List.take_zero, List.drop_succ_cons, List.drop_zero, List.cons_append, List.nil_append] at N4
      clear hlen hw hb he N3 F2 N2 hin hys8 hys1 hI l1B l1E
      dsimp only
      walk1
      refine assign_comp_text F3 (by rfl) (by rfl) (by with_unfolding_all rfl) (by decide) (by rfl) (by decide) (by rfl) (by rfl) (by rfl) ?_
      walk1
      refine ⟨_, _, _, rfl, F3, N4, by rw [PySem.sizeLine_eq]; show wide.length ≤ _; omega, fun g9 => codes_rest ?turn ?fin⟩
      case turn =>
        intro c u I9 oI C oC D9 m₂ ys9 h9 tk9 E' hc hC hx F N off ne
        simp only [LCg.Off3, and_true] at off
        iterate 9 walk1
        exact ⟨rfl, _, rfl⟩
      case fin =>
        intro zs hzs
        unfold LCg.FinA
        intro Z h8 tk8 F N o1
        simp only [LCg.Off1, and_true] at o1
        have F4 : Fr x2.heap x2.heap.objs.size h8 _ := F
        have N5 : News x2.heap x2.heap.objs.size h8 _ := N
        clear F N F3 N4
        dsimp only
        have hGood : Good (codesOf wide) := by rw [hwd]; exact flat_good hps hps8
        walk1
        refine For_turns F4 ?_
        iterate 41 walk1
        (rename Fr _ _ _ _ => F5)
        (rename News _ _ _ _ => N6)
        refine with_all N6 ?_
        intro R hR
        refine iter_listTurns (by rfl) F5 N6 (by k_mem) rfl rfl ?_
        intro I5 hI5
        k_lt hI5
        refine items_inv (AtsJ R Z B E wide twide) ?step ?fin _ _ _ ?init
        case init =>
          refine ⟨hR, rfl, rfl, rfl, rfl, ?_⟩
          have q1 := fmod_lo (cs.getD (Int.toNat 1) 0) (n := (wide.length : Int) + 1) (by omega)
          have q2 := fmod_hi (cs.getD (Int.toNat 1) 0) (n := (wide.length : Int) + 1) (by omega)
          intro x hx
          simp only [List.map_cons, List.map_nil, List.mem_cons, List.not_mem_nil, or_false] at hx
          rcases hx with rfl | rfl | rfl | rfl
          · exact ⟨_, _, rfl, q1, by omega⟩
          · exact ⟨_, _, rfl, by omega, by omega⟩
          · exact ⟨_, _, rfl, by omega, by omega⟩
          · exact ⟨_, _, rfl, by omega, by omega⟩
        case step =>
          intro a rr m' news v h tk hJ hv F
          obtain ⟨rfl, hm1, hm2, hm3, hm4, hx⟩ := hJ
          obtain ⟨k, tk9, rfl, hk0, hk5⟩ := hx a List.mem_cons_self
          have hv : v = .int k tk9 := hv
          subst hv
          refine AllObj.cons fun oI hcI => AllObj.nil fun N => ?_
          dsimp only at hcI
          have F6 : Fr x2.heap x2.heap.objs.size h _ := fr_named4 hm1 hm2 hm3 hm4 F
          subst hR
          have N7 : News x2.heap x2.heap.objs.size h _ := N
          simp only [List.cons_append, List.nil_append] at N7
          clear F N F5 N6
          iterate 20 walk1
          rename_i t9 k9 _ _ a9 l9 h9' kk9 hl1 hl2 hl3 hl4 F9 N9
          clear a9 hl4
          iterate 7 walk1
          iterate 6 walk1
          k_dflt (refine' call_cls ?k1 ?k2 ?k3 ?k4 ?k5 ?k6 ?_; (case k1 => k_asm); (case k2 => k_asm); (case k3 => k_asm); (case k4 => k_is); (case k5 => k_is); (case k6 => k_is); k_whole; intro xT dT hT FT NT lT1 lT2; (try k_lt lT1); (try k_lt2 lT2); (try k_sweep))
          k_dflt (refine' code_def ?k1 ?k2 ?k3 ?k4 ?k5 ?kA ?kF ?kK ?k6 ?k7 ?k8 ?k9 ?kB ?_ ?c2 ?c3 ?c4 ?c5; (case kA => exact rfl); (case kF => exact rfl); (case kK => first | exact rfl | assumption); (case k1 => k_asm); (case k2 => k_asm); (case k3 => k_asm); (case k4 => k_asm); (case k5 => k_asm); (case k6 => k_is); (case k7 => k_is); (case k8 => ktr_room); (case k9 => exact binds_K (K := Mine.hd.heap_39 x0.params) (by k_in) rfl (by k_is) rfl rfl rfl); (case c5 => decide); (case kB => exact locs rfl); (case c2 => exact rfl); (case c3 => exact rfl); (case c4 => exact rfl); k_whole; intro g' L' h' FG' F' N' B' X' T'; (try dsimp only); (try k_lift B'); (try k_fold))
          iterate 24 walk1
          (rename Fr _ _ _ _ => kF1)
          (rename News _ _ _ _ => kN1)
          (rename Frag.In _ _ => kX1)
          (rename Glob _ _ _ _ _ _ _ _ => q0; clear q0)
          (rename Fr g' _ _ _ => q1; clear q1)
          (rename News g' _ _ _ => q2; clear q2)
          clear lifted
          clear lifted
          clear lifted
          clear lifted
          clear FG' B' X' T' qk ek
          k_dflt (refine' c_place hGood hzs ?zt ?zd ?zl ?o1 ?o2 tk9 hk0 _ _ _ _ _ _ _ _ _ _ _ _ _ _ _ _ _ x46 kF1 kX1 kN1 x17 ?zk ?zr ?zu ?_; (case zt => k_mem); (case zd => k_mem); (case zl => k_mem); (case o1 => k_ne); (case o2 => k_ne); (case zk => rfl); (case zr => exact room12); (case zu => exact unit12))
          intro r5 px py tx5 ty5 h5 tk5 hpl hx1 hx2 hy1 hy2 F5 N5
          have F8 : Fr x2.heap x2.heap.objs.size h5 _ := F5
          have N8 : News x2.heap x2.heap.objs.size h5 _ := news_cut 1 3 N5
          simp only [List.take_succ_cons, List.take_zero, List.drop_succ_cons, List.drop_zero, List.cons_append, List.nil_append] at N8
          clear kF1 kN1 kX1 F5 N5 lT1 lT2 g' L'
          have hs9 := split_place hk0 hpl hl1
          have hm9 : (List.map (fun x : Str × Tok => x.fst) l9).length ≤ 201 := by have := hs9.1; omega
          have hm1 : 1 ≤ (List.map (fun x : Str × Tok => x.fst) l9).length := by have := hs9.1; omega
          have hn9 : (strValues l9).length = (List.map (fun x : Str × Tok => x.fst) l9).length := by unfold strValues; rw [List.length_map, List.length_map]
          have hlast : ((List.map (fun x : Str × Tok => x.fst) l9).getD (-1 + ((List.map (fun x : Str × Tok => x.fst) l9).length : Int)).toNat PySem.Str.empty).length ≤ 200 := by have := hs9.2; omega
          iterate 8 walk1
          (rename News _ _ _ _ => N13)
          refine len_strs N13 (by k_mem) hn9 hm9 ?_
          intro t13 k13
          iterate 11 walk1
          (rename News _ _ _ _ => N14)
          refine last_strs N14 (by k_mem) hl2 hm1 ?_
          intro t14
          walk1
          iterate 7 walk1
          refine ite_neg (by rw [← hs9.1, ← hs9.2]; simp) ?_
          iterate 3 walk1
          (rename Fr _ _ _ _ => F12)
          (rename News _ _ _ _ => N12)
          refine AtsJ.next F12 N12 (by k_subL) (by k_subL) (by ktu_offL) (by k_subL) hx rfl rfl rfl rfl
        case fin =>
          intro m' news h tk hJ F N
          obtain ⟨rfl, hm1, hm2, hm3, hm4, -⟩ := hJ
          have F6 : Fr x2.heap x2.heap.objs.size h _ := fr_named4 hm1 hm2 hm3 hm4 F
          subst hR
          have N7 : News x2.heap x2.heap.objs.size h _ := N
          clear F N F5 N6 hI5
          dsimp only
          walk1
          have N9 : News x2.heap x2.heap.objs.size h [(Z, listOf zs.toArray zs.length), (E, listOf es.toArray ne), (B, listOf bs.toArray nb), (x2.heap.objs.size + 1 + 1 + 1, x50)] := news_cut 4 5 (news_cut 3 4 (news_tail N7))
          clear N7
          refine For_turns F6 ?_
          walk1
          refine iter_listTurns (by rfl) F6 N9 (by k_mem) rfl rfl ?_
          intro I6 hI6
          k_lt hI6
          refine items_inv (BegJ Z zs E es ne B bs nb (x2.heap.objs.size + 1 + 1 + 1) wide twide ps) ?step ?fin _ _ _ ?init
          case init => exact ⟨x50, _, [], ps, bs, hv0b, rfl, rfl, rfl, rfl, rfl, rfl, hbs⟩
          case step =>
            intro a rr m9 news v h tk hJ hv F
            obtain ⟨oc, voc, done, pc, todo, vs, tk9, hoc, rfl, hm1, hm2, hm3, hpt, rfl, rfl, hvs⟩ := hJ.open
            clear hJ
            have hv : v = .int ((flat done).length : Int) tk9 := hv
            subst hv
            refine AllObj.cons fun oI hcI => AllObj.nil fun N => ?_
            dsimp only at hcI
            have F7 : Fr x2.heap x2.heap.objs.size h _ := fr_named3 hm1 hm2 hm3 F
            have N10 : News x2.heap x2.heap.objs.size h _ := N
            simp only [List.cons_append, List.nil_append] at N10
            obtain ⟨kb, hkb⟩ : ∃ kb : Int, kb = ((flat done).length : Int) := ⟨_, rfl⟩
            rw [← hkb]
            have hkb0 : 0 ≤ kb := by omega
            obtain ⟨hcl, hwk⟩ := beg_facts hps hwd hpt hkb
            have hkb9 : kb ≤ 96 := by omega
            clear F N F6 N9
            iterate 14 walk1
            k_dflt (refine' call_cls ?k1 ?k2 ?k3 ?k4 ?k5 ?k6 ?_; (case k1 => k_asm); (case k2 => k_asm); (case k3 => k_asm); (case k4 => k_is); (case k5 => k_is); (case k6 => k_is); k_whole; intro xT dT hT FT NT lT1 lT2; (try k_lt lT1); (try k_lt2 lT2); (try k_sweep))
            k_dflt (refine' code_def ?k1 ?k2 ?k3 ?k4 ?k5 ?kA ?kF ?kK ?k6 ?k7 ?k8 ?k9 ?kB ?_ ?c2 ?c3 ?c4 ?c5; (case kA => exact rfl); (case kF => exact rfl); (case kK => first | exact rfl | assumption); (case k1 => k_asm); (case k2 => k_asm); (case k3 => k_asm); (case k4 => k_asm); (case k5 => k_asm); (case k6 => k_is); (case k7 => k_is); (case k8 => ktr_room); (case k9 => exact binds_K (K := Mine.hd.heap_39 x0.params) (by k_in) rfl (by k_is) rfl rfl rfl); (case c5 => decide); (case kB => exact locs rfl); (case c2 => exact rfl); (case c3 => exact rfl); (case c4 => exact rfl); k_whole; intro g' L' h' FG' F' N' B' X' T'; (try dsimp only); (try k_lift B'); (try k_fold))
            iterate 26 walk1
            (rename Fr _ _ _ _ => kF1)
            (rename News _ _ _ _ => kN1)
            (rename Glob _ _ _ _ _ _ _ _ => q0; clear q0)
            (rename Fr g' _ _ _ => q1; clear q1)
            (rename News g' _ _ _ => q2; clear q2)
            clear lifted
            clear lifted
            clear lifted
            clear lifted
            clear B' X' T' qk ek
            k_dflt (refine' c_skip_clause hGood hzs ?zt ?zd ?zl hkb0 ?o1 ?o2 hcl _ _ _ _ _ _ _ _ _ _ _ _ _ _ _ _ x46 kF1 x13 kN1 x17 ?zk ?zr ?zu x13 x17 ⟨?zU, ?_⟩; (case zt => k_mem); (case zd => k_mem); (case zl => k_mem); (case o1 => k_ne); (case o2 => k_ne); (case zk => rfl); (case zr => exact room36); (case zu => exact unit36); (case zU => (intro t2; k_upd)))
            intro v8 h8 tk8 t8 hv8 F8 N8
            have F11 : Fr x2.heap x2.heap.objs.size h8 _ := F8
            have N11 : News x2.heap x2.heap.objs.size h8 _ := N8
            clear F8 N8 kF1 kN1 g' L'
            iterate 2 walk1
            walk1
            refine LCt.ListComp_T F11 (by with_unfolding_all rfl) (by decide) (by rfl) (by decide) (by rfl) ?_
            walk1
            refine LCt.CompSrcT.ledger (by rfl) F11 N11 (by k_mem) (by rw [PySem.sizeLine_eq]; simp only [List.size_toArray]; omega) ?_
            intro g9
            refine ends_rest (k := kb) hes ?turn ?fin2
            case turn =>
              intro n t I oI C oC D m₂ ys h tk E' hC hx F N off ne
              simp only [LCg.Off3, and_true] at off
              iterate 5 walk1
              walk1
              · (rename _ < _ => hkn)
                walk1
                refine LCg.CompEnd.intro F N _ (fun p hp => hp) ?_ (.inr ⟨_, by k_mem, rfl, _, rfl⟩) ⟨rfl, hkn, t, rfl⟩
                simp only [LCg.Off3, and_true]; exact off
              · (rename ¬ _ < _ => hkn)
                refine LCg.CompEnd.intro F N _ (fun p hp => hp) ?_ (.inr ⟨_, by k_mem, rfl, _, rfl⟩) ⟨rfl, hkn⟩
                simp only [LCg.Off3, and_true]; exact off
            case fin2 =>
              intro qs hqs
              have hqs2 : IntsAre qs (endsL kb (pc :: todo)) := by rw [hkb, ← ends_filter (fun p hp => hps p (hpt ▸ hp)), ← hkb, ← hpt]; exact hqs
              unfold LCg.FinE
              intro D9 h9 tk9 F N o1
              simp only [LCg.Off1, and_true] at o1
              have hql : qs.length ≤ 8 := by
                have q1 := hqs2.length
                have q2 := endsL_len (pc :: todo) kb
                have q3 : (pc :: todo).length ≤ ps.length := by rw [hpt, List.length_append]; omega
                omega
              have hwi : ∀ tw, IntsAre [Value.int (wide.length : Int) tw] [(wide.length : Int)] := fun tw => .cons _ _ .nil
              have hzq : (endsL kb (pc :: todo)).length + [(wide.length : Int)].length ≤ sizeLine := by rw [PySem.sizeLine_eq, ← hqs2.length, List.length_singleton]; omega
              have hdue : (endsL kb (pc :: todo) ++ [(wide.length : Int)]).getD 0 0 = kb + dueL (pc :: todo) := by rw [hwk]; exact due_head _ _
              iterate 11 walk1
              k_dflt (refine' kmk_add_ints ?zF ?zN ?zla ?zlb hqs2 (hwi _) ?_ hzq; (case zF => k_asm); (case zN => k_asm); (case zla => kmk_list); (case zlb => kmk_list))
              intro D8 ws8 h7 F9 N9 l8 hI8
              k_lt l8
              iterate 14 walk1
              refine ite_neg (by rw [show (Int.toNat 0) = 0 from rfl, hdue]; simp) ?_
              iterate 3 walk1
              (rename Fr _ _ _ _ => F12)
              (rename News _ _ _ _ => N12)
              (rename _ = Data.cell (some (Value.int _ _)) => hd9)
              refine BegJ.next F12 N12 (by k_subL) (by k_subL) (by ktu_offL) hd9 hpt hvs rfl rfl rfl
          case fin =>
            intro m9 news h tk hJ F N
            clear hJ
            have F7 : Fr x2.heap x2.heap.objs.size h _ := F
            have N10 : News x2.heap x2.heap.objs.size h _ := N
            clear F N F6 N9
            dsimp only
            iterate 3 walk1
            k_steps)


end Mine
theorem PySem.Challenge.cw_rr0019_01_holds : PySem.Challenge.rw_rr0019_01.Holds :=
  Mine.law_holds
