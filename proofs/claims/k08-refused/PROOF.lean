import PyProof.Rows.All
import Wide.All
import OpenK.AllK
import Wide.FinOn
import HandS.ForMost
import HandS.Walk
import HandS.Style
import HandS.IsInst
import HandS.RevRange
import HandS.Conv
import HandS.SortInts
import HandS.More
import HandS.Exc
import HandS.ExcOwn
import HandS.TryOnly
import HandS.WordsExc
import HandS.ExcIs
import PySem.Challenge.RW_beststretch_k08_refused
set_option Elab.async false
set_option linter.all false
set_option maxRecDepth 100000
set_option maxHeartbeats 4000000
namespace Bs
open PySem L2

/-! ### operators by name -/
def rAddI : R2 := rI0 fun i j => .int (i + j)
def rSubI : R2 := rI0 fun i j => .int (i - j)
def rMulI : R2 := rI CMul fun i j => .int (i * j)
def rModI : R2 := rI (fun _ j => 0 < j) fun i j => .int (i % j)
def rDivI : R2 := rI CDiv fun i j => .int (i / j)
def rPowI : R2 := rI CPow fun i j => .int (i ^ j.toNat)
def rLtI : R2 := rI0 fun i j => .bl (decide (i < j))
def rLeI : R2 := rI0 fun i j => .bl (decide (i ≤ j))
def rGtI : R2 := rI0 fun i j => .bl (decide (j < i))
def rGeI : R2 := rI0 fun i j => .bl (decide (j ≤ i))
def rNegI : V → Hp → VK → Prop := rU fun i => .int (-i)
def cLen (K : PySem.W.Frag) : List V → Hp → VK → Prop := fun xs H Q => ∃ p ys, xs = [.ref p] ∧ (SqL K H p ys ∨ SqT K H p ys) ∧ Q (.int ys.length) H
def cList (K : PySem.W.Frag) : List V → Hp → VK → Prop := fun xs H Q => ∃ p ys, xs = [.ref p] ∧ (SqL K H p ys ∨ SqT K H p ys) ∧ ∀ l, H l = none → Q (.ref l) (upd H l (.lst ys))
def cMax2 : List V → Hp → VK → Prop := fun xs H Q => ∃ i j, xs = [.int i, .int j] ∧ Q (.int (if j > i then j else i)) H
def cMin2 : List V → Hp → VK → Prop := fun xs H Q => ∃ i j, xs = [.int i, .int j] ∧ Q (.int (if j < i then j else i)) H
section
variable {X : Cx}
theorem op_addI : OpR X (binaryOp .Add) rAddI := op_add
theorem op_subI : OpR X (binaryOp .Sub) rSubI := op_sub
theorem op_mulI : OpR X (binaryOp .Mult) rMulI := op_mul
theorem op_modI : OpR X (binaryOp .Mod) rModI := op_mod
theorem op_divI : OpR X (binaryOp .FloorDiv) rDivI := op_fdiv
theorem op_powI : OpR X (binaryOp .Pow) rPowI := op_pow
theorem op_ltI : OpR X (compareOp .Lt) rLtI := op_lt
theorem op_leI : OpR X (compareOp .LtE) rLeI := op_le
theorem op_gtI : OpR X (compareOp .Gt) rGtI := op_gt
theorem op_geI : OpR X (compareOp .GtE) rGeI := op_ge
theorem un_negI : UnR X (unaryOp .USub) rNegI := un_neg
theorem c_len : CallR X (.builtin "len") (cLen X.K) := call_len_seq
theorem c_list : CallR X (.type "list") (cList X.K) := call_list_of
theorem c_max2 (hc : X.calm = true) : CallR X (.builtin "max") cMax2 := call_max2 hc
theorem c_min2 (hc : X.calm = true) : CallR X (.builtin "min") cMin2 := call_min2 hc
/-- one of two readings -/
def tAlt (t u : TE) : TE := fun σ H Q => t σ H Q ∨ u σ H Q
theorem pe_alt {e : Expr} {t u : TE} (h1 : PE X e t) (h2 : PE X e u) : PE X e (tAlt t u) :=
  ⟨fun pins s σ H Q I h => h.elim (fun q => h1.run pins s σ H Q I q) fun q => h2.run pins s σ H Q I q⟩
end

/-! ### heaps -/
section
variable {H H0 H1 H2 : Hp} {a p : Addr} {o o' : HO} {K : PySem.W.Frag} {xs : List V}
theorem same_new (s : Same H0 H) (n : H p = none) : Same H0 (upd H p o) := fun b u e => by
  have := s b u e
  rw [upd_ne (ne_of_none this n)]
  exact this
theorem same_mut (s : Same H0 H) (n : H0 p = none) : Same H0 (upd H p o) := fun b u e => by
  rw [upd_ne (ne_of_none e n)]
  exact s b u e
theorem same_new' (n : H p = none) (s : Same H0 H) : Same H0 (upd H p o) := same_new s n
theorem same_mut' (n : H0 p = none) (s : Same H0 H) : Same H0 (upd H p o) := same_mut s n
theorem same_r (s : Same H1 H2) (t : Same H0 H1) : Same H0 H2 := t.trans s
theorem at_new (h : H a = some o) (n : H p = none) : upd H p o' a = some o := (upd_ne (ne_of_none h n)).trans h
theorem at_new' (n : H p = none) (h : H a = some o) : upd H p o' a = some o := at_new h n
theorem at_mut (d : a ≠ p) (h : H a = some o) : upd H p o' a = some o := (upd_ne d).trans h
theorem at_same (s : Same H0 H) (h : H0 a = some o) : H a = some o := s a o h
theorem free_of (s : Same H0 H) (h : H p = none) : H0 p = none := s.free h
theorem ne_old (n : H p = none) (h : H a = some o) : a ≠ p := ne_of_none h n
theorem sq_same (h : SqL K H0 a xs) (s : Same H0 H) : SqL K H a xs := s.seq h
theorem sqt_same (h : SqT K H0 a xs) (s : Same H0 H) : SqT K H a xs := by
  rcases h with (h | ⟨o, h⟩) | h
  · exact .inl (.inl (s _ _ h))
  · exact .inl (.inr ⟨o, s _ _ h⟩)
  · exact .inr h
theorem free_of' (h : H p = none) (s : Same H0 H) : H0 p = none := s.free h
theorem rd_frz {u : HO} {od : Obj} (h : H a = some (.frz od u)) : Rd H a u := .inr ⟨od, h⟩
theorem free_upd (n : H a = none) (d : a ≠ p) : upd H p o a = none := (upd_ne d).trans n
end

/-! ### what a def hands back -/
/-- a value, the objects as they were -/
def RetV (H : Hp) (Q : VK) (v : V) : Prop := ∀ H', Same H H' → Q v H'
/-- a new list of ints -/
def RetI (H : Hp) (Q : VK) (ns : List Int) : Prop := ∀ p H', H p = none → Same H H' → H' p = some (.lst (ns.map V.int)) → Q (.ref p) H'

/-! ### what is wanted behind a part, by name -/
def kBl (Q : Bool → Hp → Prop) : VK := fun x H => ∃ k, x = .bl k ∧ Q k H
def kNot (Q : Bool → Hp → Prop) : Bool → Hp → Prop := fun c H => Q (!c) H
def kAnd (u : TT) (σ : L2.St) (Q : Bool → Hp → Prop) : Bool → Hp → Prop := fun c H => if c = true then u σ H Q else Q false H
def kOr (u : TT) (σ : L2.St) (Q : Bool → Hp → Prop) : Bool → Hp → Prop := fun c H => if c = true then Q true H else u σ H Q
def kAndV (u : TE) (σ : L2.St) (Q : VK) : VK := fun x H => ∃ c, x = .bl c ∧ if c = true then u σ H Q else Q (.bl false) H
def kOrV (u : TE) (σ : L2.St) (Q : VK) : VK := fun x H => ∃ c, x = .bl c ∧ if c = true then Q (.bl true) H else u σ H Q
def kNotV (Q : VK) : VK := fun x H => ∃ c, x = .bl c ∧ Q (.bl (!c)) H
def kIfS (t u : TS) (D : Ends) (σ : L2.St) : Bool → Hp → Prop := fun b H => if b = true then t D σ H else u D σ H
def kIfE (t u : TE) (σ : L2.St) (Q : VK) : Bool → Hp → Prop := fun b H => if b = true then t σ H Q else u σ H Q
def kSet (i : Nat) (D : Ends) (σ : L2.St) : VK := fun v H => D.nx (σ.set i (some v)) H
def kAsg (g : TG) (D : Ends) (σ : L2.St) : VK := fun v H => g v σ H D.nx
def kDrop (D : Ends) (σ : L2.St) : VK := fun _ H => D.nx σ H
def kCall (sp : Sp) (dvs : List V) (E : XK) (Q : VK) : List V → Hp → Prop := fun vs H => sp (vs ++ dvs) H Q E
def kCB (r : List V → Hp → VK → Prop) (Q : VK) : List V → Hp → Prop := fun vs H => r vs H Q
def kBM (K : PySem.W.Frag) (T : String) (r : V → List V → Hp → VK → Prop) (ta : TA) (σ : L2.St) (Q : VK) : VK := fun x H => tyV K T x H ∧ ta σ H fun xs H2 => r x xs H2 Q
def kBM0 (K : PySem.W.Frag) (T : String) (r : V → List V → Hp → VK → Prop) (Q : VK) : VK := fun x H => tyV K T x H ∧ r x [] H Q
def kFor (g : TG) (tb : TS) (D : Ends) (σ : L2.St) : It → Hp → Prop := fun J H1 => ∃ W : Nat → Nat → L2.St → Hp → Prop, (∃ m, W 0 m σ H1) ∧ ∀ i m σ H, W i m σ H →
    (J.stop i H ∧ D.nx σ H) ∨ (J.go i H ∧ ∃ N : L2.St → Hp → Prop, (∀ σ' H', N σ' H' → ∃ m', m' < m ∧ W (i + 1) m' σ' H') ∧ ∀ x H', J.yld i H x H' → g x σ H' fun σ2 H2 => tb { D with nx := N, ct := N, bk := D.nx } σ2 H2)
def kLc (g : TG) (tt : TT) (te : TE) (vs : List Nat) (σ : L2.St) (Q : VK) : It → Hp → Prop := fun J H1 => ∀ D, H1 D = none → ∃ W : Nat → Nat → Hp → Prop, (∃ m, W 0 m (upd H1 D (.lst []))) ∧ ∀ i m H, W i m H →
    (J.stop i H ∧ Q (.ref D) H) ∨ (J.go i H ∧ ∃ Nx : Hp → Prop, (∀ H', Nx H' → ∃ m', m' < m ∧ W (i + 1) m' H') ∧ ∀ x H', J.yld i H x H' → g x (wipe σ vs) H' fun σ2 H2 => wipe σ2 vs = wipe σ vs ∧ tt σ2 H2 fun b H3 =>
      if b = true then te σ2 H3 fun y H4 => ∃ acc, H4 D = some (.lst acc) ∧ acc.length < sizeLine ∧ Nx (upd H4 D (.lst (acc ++ [y]))) else Nx H3)
def kIList (K : PySem.W.Frag) (R : It → Hp → Prop) : VK := fun x H => ∃ a, x = .ref a ∧ (∃ xs, SqL K H a xs) ∧ R (Itl K a) H
def kRng1 (R : It → Hp → Prop) : List V → Hp → Prop := fun vs H1 => ∃ j : Int, vs = [.int j] ∧ -(2 ^ 62) ≤ j ∧ j < 2 ^ 62 ∧ R (Itr 0 j.toNat) H1
def kRng2 (R : It → Hp → Prop) : List V → Hp → Prop := fun vs H1 => ∃ i j : Int, vs = [.int i, .int j] ∧ (-(2 ^ 62) ≤ i ∧ i < 2 ^ 62 ∧ -(2 ^ 62) ≤ j ∧ j < 2 ^ 62) ∧ R (Itr i (j - i).toNat) H1
def kEnum (K : PySem.W.Frag) (R : It → Hp → Prop) : List V → Hp → Prop := fun vs H1 => ∃ a xs, vs = [.ref a] ∧ SqL K H1 a xs ∧ R (Ite K a) H1
def kLst (Q : VK) : List V → Hp → Prop := fun xs H1 => xs.length ≤ sizeLine ∧ ∀ p, H1 p = none → Q (.ref p) (upd H1 p (.lst xs))
def kTup (Q : VK) : List V → Hp → Prop := fun xs H1 => xs.length ≤ sizeLine ∧ ∀ p, H1 p = none → Q (.ref p) (upd H1 p (.tup xs))
def kFld (K : PySem.W.Frag) (f : Str) (Q : VK) : VK := fun x H1 => ∃ a C dx fs v, x = .ref a ∧ H1 a = some (.ins C dx fs) ∧ Cls K C ∧ NoAttr K C f ∧ fs.lookup f = some v ∧ Q v H1
def kPart (Q : Option Int → Hp → Prop) : VK := fun x H1 => ∃ i, x = .int i ∧ Q (some i) H1
def kChain (r' : R2) (y : V) (tc : TE) (σ : L2.St) (Q : VK) : VK := fun z H3 => ∃ k, z = .bl k ∧ (if k = true then tc σ H3 fun w' H4 => r' y w' H4 Q else Q (.bl false) H3)
def kMeth (C : Addr) (m : Str) (sp : Sp) (dvs : List V) (E : XK) (t : TA) (σ : L2.St) (Q : VK) : VK := fun x H1 => ∃ a dx fs, x = .ref a ∧ H1 a = some (.ins C dx fs) ∧ fs.lookup m = none ∧ t σ H1 fun vs H2 => sp (x :: (vs ++ dvs)) H2 Q E
def kMake (C : Addr) (sp : Sp) (dvs : List V) (E : XK) (Q : VK) : List V → Hp → Prop := fun vs H1 => ∀ x dx, H1 x = none → H1 dx = none → dx ≠ x →
    sp (.ref x :: (vs ++ dvs)) (upd (upd H1 dx (.own x)) x (.ins C dx [])) (fun v H2 => v = .non ∧ Q (.ref x) H2) E

section
variable {K : PySem.W.Frag} {σ σ' : L2.St} {H H' : Hp} {Q : VK} {QB : Bool → Hp → Prop} {ta tb te : TE} {tt uu : TT} {t u : TS} {D : Ends} {v x y : V} {i j : Int} {r : R2} {a b p : Addr} {ns ms : List Int} {xs ys vs : List V} {c d : Bool}
/-! ### expressions -/
theorem wp_var {n : Nat} (h : σ[n]? = some (some v)) (q : Q v H) : tVar n σ H Q := ⟨v, h, q⟩
theorem wp_c (q : Q v H) : tC v σ H Q := q
theorem wp_op (q : ta σ H fun x H1 => tb σ H1 fun y H2 => r x y H2 Q) : tOp r ta tb σ H Q := q
theorem wp_un {r : V → Hp → VK → Prop} (q : ta σ H fun x H1 => r x H1 Q) : tUn r ta σ H Q := q
theorem wp_addI (q : Q (.int (i + j)) H) : rAddI (.int i) (.int j) H Q := ⟨i, j, rfl, rfl, q⟩
theorem wp_subI (q : Q (.int (i - j)) H) : rSubI (.int i) (.int j) H Q := ⟨i, j, rfl, rfl, q⟩
theorem wp_mulI (h : CMul i j) (q : Q (.int (i * j)) H) : rMulI (.int i) (.int j) H Q := ⟨i, j, rfl, rfl, h, q⟩
theorem wp_modI (h : 0 < j) (q : Q (.int (i % j)) H) : rModI (.int i) (.int j) H Q := ⟨i, j, rfl, rfl, h, q⟩
theorem wp_divI (h : 0 < j ∧ j < 1073741824) (q : Q (.int (i / j)) H) : rDivI (.int i) (.int j) H Q := ⟨i, j, rfl, rfl, h, q⟩
theorem wp_negI (q : Q (.int (-i)) H) : rNegI (.int i) H Q := ⟨i, rfl, q⟩
theorem wp_ltI (q : Q (.bl (decide (i < j))) H) : rLtI (.int i) (.int j) H Q := ⟨i, j, rfl, rfl, q⟩
theorem wp_leI (q : Q (.bl (decide (i ≤ j))) H) : rLeI (.int i) (.int j) H Q := ⟨i, j, rfl, rfl, q⟩
theorem wp_gtI (q : Q (.bl (decide (j < i))) H) : rGtI (.int i) (.int j) H Q := ⟨i, j, rfl, rfl, q⟩
theorem wp_geI (q : Q (.bl (decide (j ≤ i))) H) : rGeI (.int i) (.int j) H Q := ⟨i, j, rfl, rfl, q⟩
theorem dec_int : decide (V.int i = V.int j) = decide (i = j) := by
  by_cases h : i = j
  · subst h; simp
  · rw [decide_eq_false h, decide_eq_false fun z => h (V.int.inj z)]
theorem dec_bl : decide (V.bl c = V.bl d) = decide (c = d) := by
  by_cases h : c = d
  · subst h; simp
  · rw [decide_eq_false h, decide_eq_false fun z => h (V.bl.inj z)]
theorem wp_eqI (q : Q (.bl (decide (i = j))) H) : rEq (.int i) (.int j) H Q := ⟨rfl, by rw [dec_int]; exact q⟩
theorem wp_neI (q : Q (.bl (!decide (i = j))) H) : rNe (.int i) (.int j) H Q := ⟨rfl, by rw [dec_int]; exact q⟩
theorem wp_eqB (q : Q (.bl (decide (c = d))) H) : rEq (.bl c) (.bl d) H Q := ⟨rfl, by rw [dec_bl]; exact q⟩
theorem wp_neB (q : Q (.bl (!decide (c = d))) H) : rNe (.bl c) (.bl d) H Q := ⟨rfl, by rw [dec_bl]; exact q⟩
theorem wp_isB (q : Q (.bl (decide (c = d))) H) : rIsB (.bl c) (.bl d) H Q := ⟨c, d, rfl, rfl, q⟩
theorem wp_ntB (q : Q (.bl (!decide (c = d))) H) : rNotB (.bl c) (.bl d) H Q := ⟨c, d, rfl, rfl, q⟩
/-! ### tests -/
theorem wp_test (q : te σ H (kBl QB)) : tTest te σ H QB := q
theorem wp_tB (q : te σ H (kBl QB)) : tB te σ H QB := q
theorem wp_kB (q : QB c H) : kBl QB (.bl c) H := ⟨c, rfl, q⟩
theorem wp_not (q : tt σ H (kNot QB)) : tNot tt σ H QB := q
theorem wp_kNot (q : QB (!c) H) : kNot QB c H := q
theorem wp_and (q : tt σ H (kAnd uu σ QB)) : tAnd tt uu σ H QB := q
theorem wp_or (q : tt σ H (kOr uu σ QB)) : tOr tt uu σ H QB := q
theorem wp_kAnd {c d : Bool} (h : c = true → ∀ Q' : Bool → Hp → Prop, Q' d H → uu σ H Q') (q : QB (c && d) H) : kAnd uu σ QB c H := by
  cases c with
  | true => exact h rfl QB q
  | false => exact q
theorem wp_kOr {c d : Bool} (h : c = false → ∀ Q' : Bool → Hp → Prop, Q' d H → uu σ H Q') (q : QB (c || d) H) : kOr uu σ QB c H := by
  cases c with
  | true => exact q
  | false => exact h rfl QB q
theorem wp_kAndS {c d : Bool} (h : c = true → ∀ Q' : Bool → Hp → Prop, (∀ H', Same H H' → Q' d H') → uu σ H Q') (q : ∀ H', Same H H' → QB (c && d) H') : kAnd uu σ QB c H := by
  cases c with
  | true => exact h rfl QB q
  | false => exact q H (Same.refl H)
theorem wp_kOrS {c d : Bool} (h : c = false → ∀ Q' : Bool → Hp → Prop, (∀ H', Same H H' → Q' d H') → uu σ H Q') (q : ∀ H', Same H H' → QB (c || d) H') : kOr uu σ QB c H := by
  cases c with
  | true => exact q H (Same.refl H)
  | false => exact h rfl QB q
theorem wp_andV (q : ta σ H (kAndV tb σ Q)) : tAndV ta tb σ H Q := q
theorem wp_orV (q : ta σ H (kOrV tb σ Q)) : tOrV ta tb σ H Q := q
theorem wp_notV (q : ta σ H (kNotV Q)) : tNotV ta σ H Q := q
theorem wp_kNotV (q : Q (.bl (!c)) H) : kNotV Q (.bl c) H := ⟨c, rfl, q⟩
theorem wp_kAndV {c d : Bool} (h : c = true → ∀ Q' : VK, Q' (.bl d) H → tb σ H Q') (q : Q (.bl (c && d)) H) : kAndV tb σ Q (.bl c) H := by
  refine ⟨c, rfl, ?_⟩
  cases c with
  | true => exact h rfl Q q
  | false => exact q
theorem wp_kOrV {c d : Bool} (h : c = false → ∀ Q' : VK, Q' (.bl d) H → tb σ H Q') (q : Q (.bl (c || d)) H) : kOrV tb σ Q (.bl c) H := by
  refine ⟨c, rfl, ?_⟩
  cases c with
  | true => exact q
  | false => exact h rfl Q q
theorem wp_kAndVS {c d : Bool} (h : c = true → ∀ Q' : VK, (∀ H', Same H H' → Q' (.bl d) H') → tb σ H Q') (q : ∀ H', Same H H' → Q (.bl (c && d)) H') : kAndV tb σ Q (.bl c) H := by
  refine ⟨c, rfl, ?_⟩
  cases c with
  | true => exact h rfl Q q
  | false => exact q H (Same.refl H)
theorem wp_kOrVS {c d : Bool} (h : c = false → ∀ Q' : VK, (∀ H', Same H H' → Q' (.bl d) H') → tb σ H Q') (q : ∀ H', Same H H' → Q (.bl (c || d)) H') : kOrV tb σ Q (.bl c) H := by
  refine ⟨c, rfl, ?_⟩
  cases c with
  | true => exact q H (Same.refl H)
  | false => exact h rfl Q q
/-- a chain a op b op' c of pure parts -/
theorem wp_chain {r r' : R2} {tc : TE} (q : ta σ H fun x H1 => tb σ H1 fun y H2 => r x y H2 (kChain r' y tc σ Q)) : tChain r r' ta tb tc σ H Q := q
theorem wp_kChain {r' : R2} {y : V} {tc : TE} {c d : Bool} (h : c = true → ∀ Q' : VK, Q' (.bl d) H → tc σ H fun w H4 => r' y w H4 Q') (q : Q (.bl (c && d)) H) : kChain r' y tc σ Q (.bl c) H := by
  refine ⟨c, rfl, ?_⟩
  cases c with
  | true => exact h rfl Q q
  | false => exact q
theorem wp_ifE (q : tt σ H (kIfE ta tb σ Q)) : tIf tt ta tb σ H Q := q
theorem wp_kIfE (h1 : c = true → ta σ H Q) (h2 : c = false → tb σ H Q) : kIfE ta tb σ Q c H := by
  cases c with
  | true => exact h1 rfl
  | false => exact h2 rfl
/-! ### known answers -/
theorem kOr_f (q : uu σ H QB) : kOr uu σ QB false H := q
theorem kOr_nt (q : uu σ H QB) : kOr uu σ QB (!true) H := q
theorem kOr_t (q : QB true H) : kOr uu σ QB true H := q
theorem kOr_nf (q : QB true H) : kOr uu σ QB (!false) H := q
theorem kAnd_t (q : uu σ H QB) : kAnd uu σ QB true H := q
theorem kAnd_nf (q : uu σ H QB) : kAnd uu σ QB (!false) H := q
theorem kAnd_f (q : QB false H) : kAnd uu σ QB false H := q
theorem kAnd_nt (q : QB false H) : kAnd uu σ QB (!true) H := q
theorem kOrV_f (q : tb σ H Q) : kOrV tb σ Q (.bl false) H := ⟨false, rfl, q⟩
theorem kOrV_nt (q : tb σ H Q) : kOrV tb σ Q (.bl (!true)) H := ⟨false, rfl, q⟩
theorem kAndV_t (q : tb σ H Q) : kAndV tb σ Q (.bl true) H := ⟨true, rfl, q⟩
theorem kAndV_nf (q : tb σ H Q) : kAndV tb σ Q (.bl (!false)) H := ⟨true, rfl, q⟩
theorem kAndV_f (q : Q (.bl false) H) : kAndV tb σ Q (.bl false) H := ⟨false, rfl, q⟩
theorem kIfS_t (q : t D σ H) : kIfS t u D σ true H := q
theorem kIfS_nf (q : t D σ H) : kIfS t u D σ (!false) H := q
theorem kIfS_f (q : u D σ H) : kIfS t u D σ false H := q
theorem kIfS_nt (q : u D σ H) : kIfS t u D σ (!true) H := q
theorem kNotV_t (q : Q (.bl false) H) : kNotV Q (.bl true) H := ⟨true, rfl, q⟩
theorem kNotV_f (q : Q (.bl true) H) : kNotV Q (.bl false) H := ⟨false, rfl, q⟩
theorem kNot_t (q : QB false H) : kNot QB true H := q
theorem kNot_f (q : QB true H) : kNot QB false H := q
theorem kOr_not_t : (false || c) = c := by simp
/-! ### statements -/
theorem wp_seq (q : t { D with nx := u D } σ H) : tSeq t u D σ H := q
theorem wp_asgN {n : Nat} (q : te σ H (kSet n D σ)) : tAsg te (gName n) D σ H := q
theorem wp_asg {g : TG} (q : te σ H (kAsg g D σ)) : tAsg te g D σ H := q
theorem wp_kSet {n : Nat} (h : σ.set n (some v) = σ') (q : D.nx σ' H) : kSet n D σ v H := by
  show D.nx (σ.set n (some v)) H
  rw [h]
  exact q
theorem wp_kAsg {g : TG} (q : g v σ H D.nx) : kAsg g D σ v H := q
theorem wp_nx {n : L2.St → Hp → Prop} {rt : VK} {bk ct : L2.St → Hp → Prop} (q : n σ H) : Ends.nx (Ends.mk n rt bk ct) σ H := q
theorem wp_rt {n : L2.St → Hp → Prop} {rt : VK} {bk ct : L2.St → Hp → Prop} (q : rt v H) : Ends.rt (Ends.mk n rt bk ct) v H := q
theorem wp_next (q : D.nx σ H) : tNext D σ H := q
theorem wp_ret (q : te σ H D.rt) : tRet te D σ H := q
theorem wp_drop (q : te σ H (kDrop D σ)) : tDrop te D σ H := q
theorem wp_kDrop (q : D.nx σ H) : kDrop D σ v H := q
theorem wp_ifS (q : tt σ H (kIfS t u D σ)) : tIfS tt t u D σ H := q
theorem wp_kIfS (h1 : c = true → t D σ H) (h2 : c = false → u D σ H) : kIfS t u D σ c H := by
  cases c with
  | true => exact h1 rfl
  | false => exact h2 rfl
/-! ### arguments, calls -/
theorem wp_nil {Q : List V → Hp → Prop} (q : Q [] H) : tNil σ H Q := q
theorem wp_cons {Q : List V → Hp → Prop} {tr : TA} (q : te σ H fun x H1 => tr σ H1 fun xs H2 => Q (x :: xs) H2) : tCons te tr σ H Q := q
theorem wp_call {sp : Sp} {dvs : List V} {E : XK} {ta : TA} (q : ta σ H (kCall sp dvs E Q)) : tCall sp dvs E ta σ H Q := q
theorem wp_kCall {sp : Sp} {E : XK} (q : sp vs H Q E) : kCall sp [] E Q vs H := by
  show sp (vs ++ []) H Q E
  rw [List.append_nil]
  exact q
theorem wp_tCB {r : List V → Hp → VK → Prop} {ta : TA} (q : ta σ H (kCB r Q)) : tCB r ta σ H Q := q
theorem wp_kCB {r : List V → Hp → VK → Prop} (q : r vs H Q) : kCB r Q vs H := q
theorem wp_len (h : SqL K H a xs) (q : Q (.int xs.length) H) : cLen K [.ref a] H Q := ⟨a, xs, rfl, .inl h, q⟩
theorem wp_lenI (h : SqL K H a (ns.map V.int)) (q : Q (.int ns.length) H) : cLen K [.ref a] H Q := wp_len h (by rw [List.length_map]; exact q)
theorem wp_lenT (h : SqT K H a xs) (q : Q (.int xs.length) H) : cLen K [.ref a] H Q := ⟨a, xs, rfl, .inr h, q⟩
theorem wp_listT (h : SqT K H a xs) (q : ∀ l, H l = none → Q (.ref l) (upd H l (.lst xs))) : cList K [.ref a] H Q := ⟨a, xs, rfl, .inr h, q⟩
theorem wp_ixT {n : Nat} (h : SqT K H a xs) (e : xs[n]? = some v) (q : Q v H) : rIxT K (.ref a) (.int (n : Int)) H Q := ⟨a, xs, _, v, rfl, rfl, h, atI_nat e, q⟩
theorem wp_ixT0 (h : SqT K H a (v :: xs)) (q : Q v H) : rIxT K (.ref a) (.int 0) H Q := ⟨a, _, _, v, rfl, rfl, h, atI_nat (j := 0) rfl, q⟩
theorem wp_ixT1 (h : SqT K H a (x :: v :: xs)) (q : Q v H) : rIxT K (.ref a) (.int 1) H Q := ⟨a, _, _, v, rfl, rfl, h, atI_nat (j := 1) rfl, q⟩
theorem wp_ixT2 (h : SqT K H a (x :: y :: v :: xs)) (q : Q v H) : rIxT K (.ref a) (.int 2) H Q := ⟨a, _, _, v, rfl, rfl, h, atI_nat (j := 2) rfl, q⟩
theorem wp_sum (h : SqL K H a (ns.map V.int)) (q : Q (.int ns.sum) H) : rSum K [.ref a] H Q := ⟨a, ns, rfl, h, q⟩
theorem wp_list (h : SqL K H a xs) (q : ∀ l, H l = none → Q (.ref l) (upd H l (.lst xs))) : cList K [.ref a] H Q := ⟨a, xs, rfl, .inl h, q⟩
theorem wp_max2 (q : Q (.int (if j > i then j else i)) H) : cMax2 [.int i, .int j] H Q := ⟨i, j, rfl, q⟩
theorem wp_min2 (q : Q (.int (if j < i then j else i)) H) : cMin2 [.int i, .int j] H Q := ⟨i, j, rfl, q⟩
/-! ### lists -/
/-- the item at a place -/
def nth (ns : List Int) (i : Int) : Int := ns.getD i.toNat 0
theorem atI_nth (h0 : 0 ≤ i) (h1 : i < ns.length) : atI (ns.map V.int) i = some (.int (nth ns i)) := by
  have hl : i.toNat < ns.length := by omega
  unfold atI ixN nth
  rw [List.length_map, if_pos h0, if_pos h1]
  show (ns.map V.int)[i.toNat]? = _
  rw [List.getElem?_map, List.getD_eq_getElem?_getD, List.getElem?_eq_getElem hl]
  rfl
theorem atI_neg (h0 : i < 0) (h1 : 0 ≤ i + ns.length) : atI (ns.map V.int) i = some (.int (nth ns (i + ns.length))) := by
  have hl : (i + ns.length).toNat < ns.length := by omega
  unfold atI ixN nth
  rw [List.length_map, if_neg (by omega), if_pos (by omega)]
  show (ns.map V.int)[(i + ns.length).toNat]? = _
  rw [List.getElem?_map, List.getD_eq_getElem?_getD, List.getElem?_eq_getElem hl]
  rfl
theorem wp_ixL (h : SqL K H a (ns.map V.int)) (h0 : 0 ≤ i) (h1 : i < ns.length) (q : Q (.int (nth ns i)) H) : rIxL K (.ref a) (.int i) H Q :=
  ⟨a, _, i, _, rfl, rfl, h, atI_nth h0 h1, q⟩
theorem wp_ixN (h : SqL K H a (ns.map V.int)) (h0 : i < 0) (h1 : 0 ≤ i + ns.length) (q : Q (.int (nth ns (i + ns.length))) H) : rIxL K (.ref a) (.int i) H Q :=
  ⟨a, _, i, _, rfl, rfl, h, atI_neg h0 h1, q⟩
theorem wp_lst {ta : TA} (q : ta σ H (kLst Q)) : tLst ta σ H Q := q
theorem wp_tup {ta : TA} (q : ta σ H (kTup Q)) : tTup ta σ H Q := q
theorem sz (n : Nat) (h : n ≤ 100000) : n ≤ sizeLine := Nat.le_trans h (by decide)
theorem szl {n : Nat} (h : n < 100000) : n < sizeLine := Nat.lt_of_lt_of_le h (by decide)
theorem wp_lst0 (q : ∀ p, H p = none → Q (.ref p) (upd H p (.lst (([] : List Int).map V.int)))) : kLst Q [] H := ⟨Nat.zero_le _, q⟩
theorem wp_lst1 (q : ∀ p, H p = none → Q (.ref p) (upd H p (.lst (([i] : List Int).map V.int)))) : kLst Q [.int i] H := ⟨sz _ (by decide : 1 ≤ _), q⟩
theorem wp_lst2 (q : ∀ p, H p = none → Q (.ref p) (upd H p (.lst (([i, j] : List Int).map V.int)))) : kLst Q [.int i, .int j] H := ⟨sz _ (by decide : 2 ≤ _), q⟩
theorem wp_lst3 {k : Int} (q : ∀ p, H p = none → Q (.ref p) (upd H p (.lst (([i, j, k] : List Int).map V.int)))) : kLst Q [.int i, .int j, .int k] H := ⟨sz _ (by decide : 3 ≤ _), q⟩
theorem wp_lst4 {k l : Int} (q : ∀ p, H p = none → Q (.ref p) (upd H p (.lst (([i, j, k, l] : List Int).map V.int)))) : kLst Q [.int i, .int j, .int k, .int l] H := ⟨sz _ (by decide : 4 ≤ _), q⟩
theorem wp_lst5 {k l m : Int} (q : ∀ p, H p = none → Q (.ref p) (upd H p (.lst (([i, j, k, l, m] : List Int).map V.int)))) : kLst Q [.int i, .int j, .int k, .int l, .int m] H := ⟨sz _ (by decide : 5 ≤ _), q⟩
theorem wp_lstR (h : xs.length ≤ 100000) (q : ∀ p, H p = none → Q (.ref p) (upd H p (.lst xs))) : kLst Q xs H := ⟨sz _ h, q⟩
theorem wp_kTup (h : xs.length ≤ 100000) (q : ∀ p, H p = none → Q (.ref p) (upd H p (.tup xs))) : kTup Q xs H := ⟨sz _ h, q⟩
theorem wp_tBM {T : String} {r : V → List V → Hp → VK → Prop} {to : TE} {ta : TA} (q : to σ H (kBM K T r ta σ Q)) : tBM K T r to ta σ H Q := q
theorem wp_tBM0 {T : String} {r : V → List V → Hp → VK → Prop} {to : TE} (q : to σ H (kBM0 K T r Q)) : tBM0 K T r to σ H Q := q
theorem wp_kBM {r : V → List V → Hp → VK → Prop} {ta : TA} (h : H a = some (.lst xs)) (q : ta σ H fun xs H2 => r (.ref a) xs H2 Q) : kBM K "list" r ta σ Q (.ref a) H :=
  ⟨.inl ⟨rfl, _, SqL.of h⟩, q⟩
theorem wp_kBM0 {r : V → List V → Hp → VK → Prop} (h : H a = some (.lst xs)) (q : r (.ref a) [] H Q) : kBM0 K "list" r Q (.ref a) H := ⟨.inl ⟨rfl, _, SqL.of h⟩, q⟩
theorem wp_appI (h : H a = some (.lst (ns.map V.int))) (hz : ns.length < 100000) (q : Q .non (upd H a (.lst ((ns ++ [i]).map V.int)))) : rAppend (.ref a) [.int i] H Q := by
  refine ⟨a, _, _, rfl, rfl, h, szl (by rw [List.length_map]; exact hz), ?_⟩
  rw [List.map_append] at q
  exact q
theorem wp_app (h : H a = some (.lst xs)) (hz : xs.length < 100000) (q : Q .non (upd H a (.lst (xs ++ [v])))) : rAppend (.ref a) [v] H Q := ⟨a, xs, v, rfl, rfl, h, szl hz, q⟩
/-! ### slices -/
theorem wp_sl {r : V → Option Int → Option Int → Hp → VK → Prop} {tl th : TO} (q : te σ H fun x H1 => tl σ H1 fun l H2 => th σ H2 fun u H3 => r x l u H3 Q) : tSl r te tl th σ H Q := q
theorem wp_part {Q : Option Int → Hp → Prop} (q : te σ H (kPart Q)) : tPart te σ H Q := q
theorem wp_kPart {Q : Option Int → Hp → Prop} (q : Q (some i) H) : kPart Q (.int i) H := ⟨i, rfl, q⟩
theorem wp_noPart {Q : Option Int → Hp → Prop} (q : Q none H) : tNoPart σ H Q := q
/-- a slice of ints -/
def cut (ns : List Int) (lo hi : Option Int) : List Int := (ns.drop (HT.sIx ns.length 0 lo)).take (HT.sIx ns.length ns.length hi - HT.sIx ns.length 0 lo)
theorem cutV_map (lo hi : Option Int) : cutV (ns.map V.int) lo hi = (cut ns lo hi).map V.int := by
  unfold cutV cut
  rw [List.length_map, List.map_take, List.map_drop]
theorem wp_slI {lo hi : Option Int} (h : SqL K H a (ns.map V.int)) (q : ∀ p, H p = none → Q (.ref p) (upd H p (.lst ((cut ns lo hi).map V.int)))) : rSlL K (.ref a) lo hi H Q :=
  ⟨a, _, rfl, h, fun p hp => by rw [cutV_map]; exact q p hp⟩
theorem wp_slR {lo hi : Option Int} (h : SqL K H a xs) (q : ∀ p, H p = none → Q (.ref p) (upd H p (.lst (cutV xs lo hi)))) : rSlL K (.ref a) lo hi H Q := ⟨a, _, rfl, h, q⟩
def kRev (K : PySem.W.Frag) (Q : VK) : VK := fun x H1 => ∃ a xs, x = .ref a ∧ SqL K H1 a xs ∧ ∀ p, H1 p = none → Q (.ref p) (upd H1 p (.lst xs.reverse))
theorem wp_rev (q : te σ H (kRev K Q)) : tRevL K te σ H Q := q
theorem wp_revI (h : SqL K H a (ns.map V.int)) (q : ∀ p, H p = none → Q (.ref p) (upd H p (.lst (ns.reverse.map V.int)))) : kRev K Q (.ref a) H :=
  ⟨a, _, rfl, h, fun p hp => by rw [← List.map_reverse]; exact q p hp⟩
theorem wp_revR (h : SqL K H a xs) (q : ∀ p, H p = none → Q (.ref p) (upd H p (.lst xs.reverse))) : kRev K Q (.ref a) H := ⟨a, _, rfl, h, q⟩
theorem wp_catI (h : H a = some (.lst (ns.map V.int))) (h' : H b = some (.lst (ms.map V.int))) (hz : ns.length + ms.length ≤ 100000) (q : ∀ p, H p = none → Q (.ref p) (upd H p (.lst ((ns ++ ms).map V.int)))) : rCat (.ref a) (.ref b) H Q :=
  ⟨a, b, _, _, rfl, rfl, h, h', sz _ (by rw [List.length_map, List.length_map]; exact hz), fun p hp => by rw [← List.map_append]; exact q p hp⟩
theorem wp_catR (h : H a = some (.lst xs)) (h' : H b = some (.lst ys)) (hz : xs.length + ys.length ≤ 100000) (q : ∀ p, H p = none → Q (.ref p) (upd H p (.lst (xs ++ ys)))) : rCat (.ref a) (.ref b) H Q :=
  ⟨a, b, _, _, rfl, rfl, h, h', sz _ hz, q⟩
/-! ### == of lists of ints -/
theorem dpAll_ints : ∀ ns : List Int, DpAll K H (ns.map V.int) (ns.map PyData.int)
  | [] => .nil
  | n :: r => .cons (.int n) (dpAll_ints r)
theorem eqvAll_ints : ∀ ns ms : List Int, PyData.eqvAll (ns.map PyData.int) (ms.map PyData.int) = decide (ns = ms)
  | [], [] => by simp [PyData.eqvAll]
  | [], _ :: _ => by simp [PyData.eqvAll]
  | _ :: _, [] => by simp [PyData.eqvAll]
  | n :: r, m :: s => by
    simp only [List.map_cons, PyData.eqvAll, PyData.eqv, eqvAll_ints r s]
    by_cases e : n = m <;> by_cases f : r = s <;> simp [e, f]
theorem canLay_ints : ∀ ns : List Int, PyData.canLayAll0 (ns.map PyData.int) = true
  | [] => by simp [PyData.canLayAll0]
  | n :: r => by simp [PyData.canLayAll0, PyData.canLay0, canLay_ints r]
theorem depth_ints : ∀ ns : List Int, PyData.depthAll (ns.map PyData.int) = 0
  | [] => by simp [PyData.depthAll]
  | n :: r => by simp [PyData.depthAll, PyData.depth, depth_ints r]
theorem shaped_ints (ns : List Int) : SeqAt.shaped (.list (ns.map PyData.int)) = true := by
  simp [SeqAt.shaped, PyData.canLay0, PyData.depth, canLay_ints, depth_ints]
theorem wp_eqL (h : SqL K H a (ns.map V.int)) (h' : SqL K H b (ms.map V.int)) (q : Q (.bl (decide (ns = ms))) H) : rEqD K (.ref a) (.ref b) H Q := by
  refine ⟨.list (ns.map PyData.int), .list (ms.map PyData.int), .lst h (dpAll_ints ns), .lst h' (dpAll_ints ms), shaped_ints _, shaped_ints _, ?_⟩
  show Q (.bl (PyData.eqvAll _ _)) H
  rw [eqvAll_ints]
  exact q
theorem wp_neL (h : SqL K H a (ns.map V.int)) (h' : SqL K H b (ms.map V.int)) (q : Q (.bl (!decide (ns = ms))) H) : rNeD K (.ref a) (.ref b) H Q := by
  refine ⟨.list (ns.map PyData.int), .list (ms.map PyData.int), .lst h (dpAll_ints ns), .lst h' (dpAll_ints ms), shaped_ints _, shaped_ints _, ?_⟩
  show Q (.bl (!PyData.eqvAll _ _)) H
  rw [eqvAll_ints]
  exact q
/-! ### loops -/
theorem wp_for {wi : TI} {g : TG} (q : wi σ H (kFor g t D σ)) : tFor wi g t D σ H := q
theorem wp_lc {wi : TI} {g : TG} {ws : List Nat} (q : wi σ H (kLc g tt te ws σ Q)) : tLc wi g tt te ws σ H Q := q
theorem wp_iList {R : It → Hp → Prop} (q : te σ H (kIList K R)) : iList K te σ H R := q
theorem wp_kIList {R : It → Hp → Prop} (h : SqL K H a xs) (q : R (Itl K a) H) : kIList K R (.ref a) H := ⟨a, rfl, ⟨xs, h⟩, q⟩
theorem wp_iRng1 {R : It → Hp → Prop} {ta : TA} (q : ta σ H (kRng1 R)) : iRng1 ta σ H R := q
theorem wp_kRng1 {R : It → Hp → Prop} (h : -100000000 ≤ i ∧ i < 100000000) (q : R (Itr 0 i.toNat) H) : kRng1 R [.int i] H := ⟨i, rfl, by omega, by omega, q⟩
theorem wp_iRng2 {R : It → Hp → Prop} {ta : TA} (q : ta σ H (kRng2 R)) : iRng2 ta σ H R := q
theorem wp_kRng2 {R : It → Hp → Prop} (h : -100000000 ≤ i ∧ i < 100000000) (h' : -100000000 ≤ j ∧ j < 100000000) (q : R (Itr i (j - i).toNat) H) : kRng2 R [.int i, .int j] H := ⟨i, j, rfl, by omega, q⟩
theorem wp_iEnum {R : It → Hp → Prop} {ta : TA} (q : ta σ H (kEnum K R)) : iEnum K ta σ H R := q
theorem wp_kEnum {R : It → Hp → Prop} (h : SqL K H a xs) (q : R (Ite K a) H) : kEnum K R [.ref a] H := ⟨a, xs, rfl, h, q⟩
theorem wp_gName {n : Nat} {Q : L2.St → Hp → Prop} (h : σ.set n (some v) = σ') (q : Q σ' H) : gName n v σ H Q := by
  show Q (σ.set n (some v)) H
  rw [h]
  exact q
theorem wp_gTup {n : Nat} {g : TGs} {Q : L2.St → Hp → Prop} (h : SqT K H a xs) (hl : xs.length = n) (q : g xs σ H Q) : gTup K n g (.ref a) σ H Q := ⟨a, xs, rfl, h, hl, q⟩
theorem wp_gCons {g : TG} {gs : TGs} {Q : L2.St → Hp → Prop} (q : g v σ H fun σ' H' => gs xs σ' H' Q) : gCons g gs (v :: xs) σ H Q := ⟨v, xs, rfl, q⟩
theorem wp_gNil {Q : L2.St → Hp → Prop} (q : Q σ H) : gNil [] σ H Q := ⟨rfl, q⟩
/-- a for over a list of ints -/
theorem forI {g : TG} (Pv : Nat → L2.St → Hp → Prop) (h0 : Pv 0 σ H) (hl : ∀ i σ' H', i ≤ ns.length → Pv i σ' H' → SqL K H' a (ns.map V.int))
    (hs : ∀ (i : Nat) σ' H', i < ns.length → Pv i σ' H' → g (.int (nth ns i)) σ' H' fun σ2 H2 => t { D with nx := Pv (i + 1), ct := Pv (i + 1), bk := D.nx } σ2 H2) (hd : ∀ σ' H', Pv ns.length σ' H' → D.nx σ' H') : kFor g t D σ (Itl K a) H := by
  refine for_list (K := K) (a := a) (xs := ns.map V.int) Pv h0 (fun i σ' H' hi p => hl i σ' H' (by rw [List.length_map] at hi; exact hi) p) (fun i x σ' H' e p => ?_) (fun σ' H' p => hd σ' H' (by rw [List.length_map] at p; exact p))
  have hi : i < ns.length := by
    have := (List.getElem?_eq_some_iff.mp e).1
    rw [List.length_map] at this
    exact this
  have ex : x = .int (nth ns i) := by
    have q := atI_nth (ns := ns) (i := (i : Int)) (by omega) (by omega)
    unfold nth
    rw [List.getElem?_map, List.getElem?_eq_getElem hi] at e
    rw [← Option.some.inj e]
    simp [List.getD_eq_getElem?_getD, hi]
  subst ex
  exact hs i σ' H' hi p
/-- a for over a list of anything -/
theorem forR {g : TG} (Pv : Nat → L2.St → Hp → Prop) (h0 : Pv 0 σ H) (hl : ∀ i σ' H', i ≤ xs.length → Pv i σ' H' → SqL K H' a xs)
    (hs : ∀ (i : Nat) x σ' H', xs[i]? = some x → Pv i σ' H' → g x σ' H' fun σ2 H2 => t { D with nx := Pv (i + 1), ct := Pv (i + 1), bk := D.nx } σ2 H2) (hd : ∀ σ' H', Pv xs.length σ' H' → D.nx σ' H') : kFor g t D σ (Itl K a) H :=
  for_list (K := K) (a := a) (xs := xs) Pv h0 hl hs hd
theorem forN {g : TG} {lo : Int} {n : Nat} (Pv : Nat → L2.St → Hp → Prop) (h0 : Pv 0 σ H)
    (hs : ∀ (i : Nat) σ' H', i < n → Pv i σ' H' → g (.int (lo + i)) σ' H' fun σ2 H2 => t { D with nx := Pv (i + 1), ct := Pv (i + 1), bk := D.nx } σ2 H2) (hd : ∀ σ' H', Pv n σ' H' → D.nx σ' H') : kFor g t D σ (Itr lo n) H :=
  for_range Pv h0 hs hd
/-- a for over enumerate of a list of ints -/
theorem forE {g : TG} (Pv : Nat → L2.St → Hp → Prop) (h0 : Pv 0 σ H) (hl : ∀ i σ' H', i ≤ ns.length → Pv i σ' H' → SqL K H' a (ns.map V.int))
    (hs : ∀ (i : Nat) σ' H' T, i < ns.length → Pv i σ' H' → H' T = none → g (.ref T) σ' (upd H' T (.tup [.int i, .int (nth ns i)])) fun σ2 H2 => t { D with nx := Pv (i + 1), ct := Pv (i + 1), bk := D.nx } σ2 H2) (hd : ∀ σ' H', Pv ns.length σ' H' → D.nx σ' H') : kFor g t D σ (Ite K a) H := by
  refine for_it (walk_enum (K := K) (a := a) (xs := ns.map V.int)) Pv h0 (fun i σ' H' hi p => hl i σ' H' (by rw [List.length_map] at hi; exact hi) p) (fun i x σ' H' H2 hi p y => ?_) (fun σ' H' p => hd σ' H' (by rw [List.length_map] at p; exact p))
  rw [List.length_map] at hi
  obtain ⟨T, x1, y1, rfl, hn, rfl, e1, e2⟩ := y
  have e1' : x1 = .int i := (Option.some.inj e1).symm
  have ey : y1 = .int (nth ns i) := by
    unfold nth
    have e2' : (ns.map V.int)[i]? = some y1 := e2
    rw [List.getElem?_map, List.getElem?_eq_getElem hi] at e2'
    rw [← Option.some.inj e2']
    simp [List.getD_eq_getElem?_getD, hi]
  subst e1' ey
  exact hs i σ' H' T hi p hn
/-- a for over enumerate of a list of anything -/
theorem forER {g : TG} (Pv : Nat → L2.St → Hp → Prop) (h0 : Pv 0 σ H) (hl : ∀ i σ' H', i ≤ xs.length → Pv i σ' H' → SqL K H' a xs)
    (hs : ∀ (i : Nat) x σ' H' T, xs[i]? = some x → Pv i σ' H' → H' T = none → g (.ref T) σ' (upd H' T (.tup [.int i, x])) fun σ2 H2 => t { D with nx := Pv (i + 1), ct := Pv (i + 1), bk := D.nx } σ2 H2) (hd : ∀ σ' H', Pv xs.length σ' H' → D.nx σ' H') : kFor g t D σ (Ite K a) H := by
  refine for_it (walk_enum (K := K) (a := a) (xs := xs)) Pv h0 hl (fun i x σ' H' H2 hi p y => ?_) hd
  obtain ⟨T, x1, y1, rfl, hn, rfl, e1, e2⟩ := y
  cases Option.some.inj e1
  exact hs i y1 σ' H' T e2 p hn
/-- while True: a word with a number that falls; nothing that stood is changed -/
theorem whileTS (R : Nat → L2.St → Prop) (m0 : Nat) (h0 : R m0 σ)
    (hs : ∀ (m : Nat) σ' H', R m σ' → Same H H' → t { D with nx := fun σ2 H2 => ∃ m', m' < m ∧ R m' σ2 ∧ Same H H2, ct := fun σ2 H2 => ∃ m', m' < m ∧ R m' σ2 ∧ Same H H2, bk := D.nx } σ' H') : tWhile (tB (tC (.bl true))) t D σ H := by
  refine ⟨fun m σ' H' => R m σ' ∧ Same H H', ⟨m0, h0, Same.refl H⟩, ?_⟩
  rintro m σ' H' ⟨r, s⟩
  refine ⟨true, rfl, ?_⟩
  exact ⟨_, fun σ2 H2 z => z, hs m σ' H' r s⟩
/-- loops that change nothing that stood: the word speaks of the slots alone -/
theorem forIS {g : TG} (ha : SqL K H a (ns.map V.int)) (R : Nat → L2.St → Prop) (h0 : R 0 σ)
    (hs : ∀ (i : Nat) σ' H', i < ns.length → R i σ' → Same H H' → g (.int (nth ns i)) σ' H' fun σ2 H2 => t { D with nx := fun σ3 H3 => R (i + 1) σ3 ∧ Same H H3, ct := fun σ3 H3 => R (i + 1) σ3 ∧ Same H H3, bk := D.nx } σ2 H2)
    (hd : ∀ σ' H', R ns.length σ' → Same H H' → D.nx σ' H') : kFor g t D σ (Itl K a) H :=
  forI (ns := ns) (fun i σ' H' => R i σ' ∧ Same H H') ⟨h0, Same.refl H⟩ (fun i σ' H' _ p => p.2.seq ha) (fun i σ' H' hi p => hs i σ' H' hi p.1 p.2) (fun σ' H' p => hd σ' H' p.1 p.2)
theorem forRS {g : TG} (ha : SqL K H a xs) (R : Nat → L2.St → Prop) (h0 : R 0 σ)
    (hs : ∀ (i : Nat) x σ' H', xs[i]? = some x → R i σ' → Same H H' → g x σ' H' fun σ2 H2 => t { D with nx := fun σ3 H3 => R (i + 1) σ3 ∧ Same H H3, ct := fun σ3 H3 => R (i + 1) σ3 ∧ Same H H3, bk := D.nx } σ2 H2)
    (hd : ∀ σ' H', R xs.length σ' → Same H H' → D.nx σ' H') : kFor g t D σ (Itl K a) H :=
  forR (xs := xs) (fun i σ' H' => R i σ' ∧ Same H H') ⟨h0, Same.refl H⟩ (fun i σ' H' _ p => p.2.seq ha) (fun i x σ' H' hi p => hs i x σ' H' hi p.1 p.2) (fun σ' H' p => hd σ' H' p.1 p.2)
theorem forNS {g : TG} {lo : Int} {n : Nat} (R : Nat → L2.St → Prop) (h0 : R 0 σ)
    (hs : ∀ (i : Nat) σ' H', i < n → R i σ' → Same H H' → g (.int (lo + i)) σ' H' fun σ2 H2 => t { D with nx := fun σ3 H3 => R (i + 1) σ3 ∧ Same H H3, ct := fun σ3 H3 => R (i + 1) σ3 ∧ Same H H3, bk := D.nx } σ2 H2)
    (hd : ∀ σ' H', R n σ' → Same H H' → D.nx σ' H') : kFor g t D σ (Itr lo n) H :=
  forN (fun i σ' H' => R i σ' ∧ Same H H') ⟨h0, Same.refl H⟩ (fun i σ' H' hi p => hs i σ' H' hi p.1 p.2) (fun σ' H' p => hd σ' H' p.1 p.2)
theorem forES {g : TG} (ha : SqL K H a (ns.map V.int)) (R : Nat → L2.St → Prop) (h0 : R 0 σ)
    (hs : ∀ (i : Nat) σ' H' T, i < ns.length → R i σ' → Same H H' → H' T = none → g (.ref T) σ' (upd H' T (.tup [.int i, .int (nth ns i)])) fun σ2 H2 => t { D with nx := fun σ3 H3 => R (i + 1) σ3 ∧ Same H H3, ct := fun σ3 H3 => R (i + 1) σ3 ∧ Same H H3, bk := D.nx } σ2 H2)
    (hd : ∀ σ' H', R ns.length σ' → Same H H' → D.nx σ' H') : kFor g t D σ (Ite K a) H :=
  forE (ns := ns) (fun i σ' H' => R i σ' ∧ Same H H') ⟨h0, Same.refl H⟩ (fun i σ' H' _ p => p.2.seq ha) (fun i σ' H' T hi p nT => hs i σ' H' T hi p.1 p.2 nT) (fun σ' H' p => hd σ' H' p.1 p.2)
end
end Bs

namespace Bs
open PySem L2
/-- the classes' addresses -/
structure Cs where
  Answer : Addr := 0
  Best : Addr := 0
  Steep : Addr := 0
  Around : Addr := 0
  Exact : Addr := 0
  Never : Addr := 0
  Several : Addr := 0
  StretchError : Addr := 0
  BadRow : Addr := 0
  BadLeast : Addr := 0
  BadTotal : Addr := 0
  BadMany : Addr := 0
  f_sums : Addr := 0
  f_best : Addr := 0
  f_steepest : Addr := 0
  f_around : Addr := 0
  f_exact : Addr := 0
  f_how_many : Addr := 0
  f_several : Addr := 0
/-- a law's promise -/
def spLaw (K : PySem.W.Frag) : Sp := fun vs H Q _ => ∃ (a : Addr) (ns : List Int), vs = [.ref a] ∧ SqL K H a (ns.map V.int) ∧ ns.length ≤ 63 ∧ ∀ H', Q (.bl true) H'
theorem len1 {vs : List V} {a : V} (h : vs = [a]) : vs.length = 1 := by rw [h]; rfl

section
variable {K : PySem.W.Frag} {σ σ' : L2.St} {H H' : Hp} {Q : VK} {QB : Bool → Hp → Prop} {ta tb te : TE} {tt uu : TT} {t u : TS} {D : Ends} {v x y : V} {i j : Int} {r : R2} {a b p : Addr} {ns ms : List Int} {xs ys vs : List V} {c d : Bool}
/-! ### comprehensions -/
theorem lcW {J : It} {n : Nat} {G : Hp → Prop} {X : Nat → V} {g : TG} {ws : List Nat} {σi : Nat → L2.St} (w : Walk J n G (fun i H x H' => H' = H ∧ x = X i)) (b : Nat → Bool) (v : Nat → V) (hn : n ≤ 100000)
    (hG : ∀ H', Same H H' → G H') (hg : ∀ i H' k, k (σi i) H' → g (X i) (wipe σ ws) H' k) (hw : ∀ i, wipe (σi i) ws = wipe σ ws)
    (ht : ∀ i H', i < n → Same H H' → ∀ Q' : Bool → Hp → Prop, (∀ H'', Same H' H'' → Q' (b i) H'') → tt (σi i) H' Q')
    (he : ∀ i H', i < n → b i = true → Same H H' → ∀ Q' : VK, (∀ H'', Same H' H'' → Q' (v i) H'') → te (σi i) H' Q')
    (q : ∀ p H', H p = none → Same H H' → H' p = some (.lst (((List.range n).filter b).map v)) → Q (.ref p) H') : kLc g tt te ws σ Q J H := by
  intro D hD
  refine lc_it w (Qd := fun H' => Q (.ref D) H') (fun i H' => Same H H' ∧ H' D = some (.lst (((List.range i).filter b).map v))) ⟨same_new (Same.refl H) hD, upd_same⟩ (fun i H' _ p => hG H' p.1) ?_ (fun H' p => q D H' hD p.1 p.2)
  rintro i x H1 H2 hi ⟨s1, d1⟩ ⟨rfl, rfl⟩
  refine hg i _ _ ⟨hw i, ht i H2 hi s1 _ fun H3 s3 => ?_⟩
  have d3 := s3 _ _ d1
  have e : ((List.range (i + 1)).filter b).map v = if b i = true then ((List.range i).filter b).map v ++ [v i] else ((List.range i).filter b).map v := by
    rw [List.range_succ, List.filter_append, List.map_append]
    cases hb : b i <;> simp [hb]
  by_cases hb : b i = true
  · rw [if_pos hb] at e
    rw [if_pos hb]
    refine he i H3 hi hb (s1.trans s3) _ fun H4 s4 => ⟨_, s4 _ _ d3, szl ?_, same_mut ((s1.trans s3).trans s4) hD, ?_⟩
    · rw [List.length_map]
      have := List.length_filter_le b (List.range i)
      rw [List.length_range] at this
      omega
    · rw [e]
      exact upd_same
  · rw [if_neg hb] at e
    rw [if_neg hb, e]
    exact ⟨s1.trans s3, d3⟩
theorem map_range_nth {α : Type} (f : Int → α) (ns : List Int) : (List.range ns.length).map (fun i : Nat => f (nth ns i)) = ns.map f := by
  apply List.ext_getElem
  · simp
  · intro i h1 h2
    simp at h1
    simp [nth, h1]
theorem walkI {ns : List Int} : Walk (Itl K a) ns.length (fun H => SqL K H a (ns.map V.int)) (fun i H x H' => H' = H ∧ x = .int (nth ns i)) := by
  have w := walk_list (K := K) (a := a) (xs := ns.map V.int)
  rw [List.length_map] at w
  refine w.mono (fun _ h => h) fun i H x H' hi _ y => ⟨y.1, ?_⟩
  have e := y.2
  rw [List.getElem?_map, List.getElem?_eq_getElem hi] at e
  rw [← Option.some.inj e]
  simp [nth, hi]
/-- over a list of ints, each item's value by f -/
theorem lcI {k : Nat} (f : Int → V) (h : SqL K H a (ns.map V.int)) (hn : ns.length ≤ 100000) (hw : ∀ x : V, wipe ((wipe σ [k]).set k (some x)) [k] = wipe σ [k])
    (he : ∀ (i : Nat) H', i < ns.length → Same H H' → ∀ Q' : VK, (∀ H'', Same H' H'' → Q' (f (nth ns i)) H'') → te ((wipe σ [k]).set k (some (.int (nth ns i)))) H' Q')
    (q : ∀ p H', H p = none → Same H H' → H' p = some (.lst (ns.map f)) → Q (.ref p) H') : kLc (gName k) tYes te [k] σ Q (Itl K a) H := by
  refine lcW (σi := fun i => (wipe σ [k]).set k (some (.int (nth ns i)))) (walkI (ns := ns)) (fun _ => true) (fun i => f (nth ns i)) hn (fun H' s => s.seq h) (fun i H' k' z => z) (fun i => hw _) (fun i H' _ _ Q' z => z H' (Same.refl H')) (fun i H' hi _ s => he i H' hi s) fun p H' np s hp => ?_
  refine q p H' np s ?_
  rw [hp, ← map_range_nth f ns]
  congr 2
  rw [List.filter_eq_self.mpr (fun _ _ => rfl)]
theorem lcI_int {k : Nat} (f : Int → Int) (h : SqL K H a (ns.map V.int)) (hn : ns.length ≤ 100000) (hw : ∀ x : V, wipe ((wipe σ [k]).set k (some x)) [k] = wipe σ [k])
    (he : ∀ (i : Nat) H', i < ns.length → Same H H' → ∀ Q' : VK, (∀ H'', Same H' H'' → Q' (.int (f (nth ns i))) H'') → te ((wipe σ [k]).set k (some (.int (nth ns i)))) H' Q')
    (q : ∀ p H', H p = none → Same H H' → H' p = some (.lst ((ns.map f).map V.int)) → Q (.ref p) H') : kLc (gName k) tYes te [k] σ Q (Itl K a) H :=
  lcI (fun n => .int (f n)) h hn hw he fun p H' np s hp => q p H' np s (by rw [hp, List.map_map]; rfl)
theorem lcI_bl {k : Nat} (f : Int → Bool) (h : SqL K H a (ns.map V.int)) (hn : ns.length ≤ 100000) (hw : ∀ x : V, wipe ((wipe σ [k]).set k (some x)) [k] = wipe σ [k])
    (he : ∀ (i : Nat) H', i < ns.length → Same H H' → ∀ Q' : VK, (∀ H'', Same H' H'' → Q' (.bl (f (nth ns i))) H'') → te ((wipe σ [k]).set k (some (.int (nth ns i)))) H' Q')
    (q : ∀ p H', H p = none → Same H H' → H' p = some (.lst ((ns.map f).map V.bl)) → Q (.ref p) H') : kLc (gName k) tYes te [k] σ Q (Itl K a) H :=
  lcI (fun n => .bl (f n)) h hn hw he fun p H' np s hp => q p H' np s (by rw [hp, List.map_map]; rfl)
/-- over a range, each turn's value by f -/
theorem lcN {k : Nat} {lo : Int} {n : Nat} (f : Nat → V) (hn : n ≤ 100000) (hw : ∀ x : V, wipe ((wipe σ [k]).set k (some x)) [k] = wipe σ [k])
    (he : ∀ (i : Nat) H', i < n → Same H H' → ∀ Q' : VK, (∀ H'', Same H' H'' → Q' (f i) H'') → te ((wipe σ [k]).set k (some (.int (lo + i)))) H' Q')
    (q : ∀ p H', H p = none → Same H H' → H' p = some (.lst ((List.range n).map f)) → Q (.ref p) H') : kLc (gName k) tYes te [k] σ Q (Itr lo n) H := by
  refine lcW (σi := fun i => (wipe σ [k]).set k (some (.int (lo + i)))) (walk_range (lo := lo) (n := n)) (fun _ => true) f hn (fun _ _ => trivial) (fun i H' k' z => z) (fun i => hw _) (fun i H' _ _ Q' z => z H' (Same.refl H')) (fun i H' hi _ s => he i H' hi s) fun p H' np s hp => ?_
  refine q p H' np s ?_
  rw [hp, List.filter_eq_self.mpr (fun _ _ => rfl)]
/-- if c: x = e, x an int -/
theorem wp_kIfSetI {n : Nat} {old new : Int} (h : σ[n]? = some (some (.int old))) (he : c = true → ∀ Q' : VK, Q' (.int new) H → te σ H Q') (q : ∀ z : Int, z = (if c = true then new else old) → D.nx (σ.set n (some (.int z))) H) : kIfS (tAsg te (gName n)) tNext D σ c H := by
  cases c with
  | true => exact he rfl _ (q new (by rw [if_pos rfl]))
  | false =>
    have e : σ.set n (some (.int old)) = σ := by
      obtain ⟨hn, e⟩ := List.getElem?_eq_some_iff.mp h
      rw [← e, List.set_getElem_self]
    have z := q old (by rw [if_neg (by decide)])
    rw [e] at z
    exact z
/-- reversed(range(n)) -/
def kRev1 (R : It → Hp → Prop) : VK := fun x H1 => ∃ n : Int, x = .int n ∧ (-(2 ^ 62) ≤ (0 : Int) ∧ (0 : Int) < 2 ^ 62 ∧ -(2 ^ 62) ≤ n ∧ n < 2 ^ 62 ∧ R (Itc (0 + (((n - 0).toNat : Nat) : Int) - 1) (-1) (n - 0).toNat) H1)
theorem wp_iRevR1 {R : It → Hp → Prop} (q : ta σ H (kRev1 R)) : iRevR (tRg1 ta) σ H R := q
theorem wp_kRev1 {R : It → Hp → Prop} {n : Nat} (h : n ≤ 100000) (q : R (Itc ((n : Int) - 1) (-1) n) H) : kRev1 R (.int n) H := by
  have e : ((n : Int) - 0).toNat = n := by omega
  refine ⟨n, rfl, by omega, by omega, by omega, by omega, ?_⟩
  rw [e, Int.zero_add]
  exact q
theorem forRev {g : TG} {n : Nat} (Pv : Nat → L2.St → Hp → Prop) (h0 : Pv 0 σ H)
    (hs : ∀ (i : Nat) σ' H', i < n → Pv i σ' H' → g (.int ((n - 1 - i : Nat) : Int)) σ' H' fun σ2 H2 => t { D with nx := Pv (i + 1), ct := Pv (i + 1), bk := D.nx } σ2 H2) (hd : ∀ σ' H', Pv n σ' H' → D.nx σ' H') : kFor g t D σ (Itc ((n : Int) - 1) (-1) n) H :=
  for_rangeC Pv h0 (fun i σ' H' hi p => by
    have e : ((n : Int) - 1) + (i : Nat) * (-1) = ((n - 1 - i : Nat) : Int) := by omega
    rw [e]
    exact hs i σ' H' hi p) hd
theorem wp_tYes {Q : Bool → Hp → Prop} (q : Q true H) : tYes σ H Q := q
/-! ### all, any, isinstance -/
theorem wp_all {bs : List Bool} (h : H a = some (.lst (bs.map V.bl))) (q : Q (.bl (bs.all id)) H) : rAll K [.ref a] H Q := ⟨a, bs, rfl, SqL.of h, q⟩
theorem wp_any {bs : List Bool} (h : H a = some (.lst (bs.map V.bl))) (q : Q (.bl (bs.any id)) H) : rAny K [.ref a] H Q := ⟨a, bs, rfl, SqL.of h, q⟩
theorem isi_int (q : Q (.bl true) H) : rIsi K [.int i, .ty "int"] H Q := ⟨_, _, _, _, true, rfl, .ty _, .base (.int i), kit_ty (by decide +kernel), q⟩
theorem isi_int_bool (q : Q (.bl false) H) : rIsi K [.int i, .ty "bool"] H Q := ⟨_, _, _, _, false, rfl, .ty _, .base (.int i), kit_ty (by decide +kernel), q⟩
theorem isi_bool (q : Q (.bl true) H) : rIsi K [.bl c, .ty "bool"] H Q := ⟨_, _, _, _, true, rfl, .ty _, .base (.bl c), kit_ty (by decide +kernel), q⟩
theorem isi_list (h : H a = some (.lst xs)) (q : Q (.bl true) H) : rIsi K [.ref a, .ty "list"] H Q := ⟨_, _, _, _, true, rfl, .ty _, .base (.lst h), kit_ty (by decide +kernel), q⟩
theorem isi_tup (h : H a = some (.tup xs)) (q : Q (.bl true) H) : rIsi K [.ref a, .ty "tuple"] H Q := ⟨_, _, _, _, true, rfl, .ty _, .base (.tup h), kit_ty (by decide +kernel), q⟩
/-! ### dicts of ints -/
def kD2 (ty tx : TE) (σ : L2.St) (Q : VK) : VK := fun x H1 => ∃ a, x = .ref a ∧ IsD H1 a ∧ ty σ H1 fun y H2 => tx σ H2 fun z H3 => ∃ o, DGet H3 a y o ∧ Q (o.getD z) H3
theorem wp_dget2 {td ty tx : TE} (q : td σ H (kD2 ty tx σ Q)) : tDGet2 td ty tx σ H Q := q
theorem wp_kD2 {kvs : List (Key × V)} {ty tx : TE} {n m : Int} (h : H a = some (.dK kvs)) (hy : ∀ Q' : VK, Q' (.int n) H → ty σ H Q') (hx : ∀ Q' : VK, Q' (.int m) H → tx σ H Q') (q : Q ((valV kvs (.inl n)).getD (.int m)) H) : kD2 ty tx σ Q (.ref a) H :=
  ⟨a, rfl, .inl ⟨kvs, .inl h⟩, hy _ (hx _ ⟨_, DGet.k (k := Sum.inl n) h, q⟩)⟩
def kPut (ty : TE) (D : Ends) (σ : L2.St) (td : TE) : VK := fun v H1 => td σ H1 fun x H2 => ty σ H2 fun y H3 => ∃ a H4, x = .ref a ∧ DPut H3 a y v H4 ∧ D.nx σ H4
theorem wp_dput {td ty tv : TE} (q : tv σ H (kPut ty D σ td)) : sDPut td ty tv D σ H := q
def kPut2 (v : V) (D : Ends) (σ : L2.St) : V → V → Hp → Prop := fun x y H3 => ∃ a H4, x = .ref a ∧ DPut H3 a y v H4 ∧ D.nx σ H4
theorem wp_kPut {td ty : TE} (q : td σ H fun x H2 => ty σ H2 fun y H3 => kPut2 v D σ x y H3) : kPut ty D σ td v H := q
theorem wp_kPut2 {kvs : List (Key × V)} {n : Int} (h : H a = some (.dK kvs)) (hl : kvs.length < 100000) (q : D.nx σ (upd H a (.dK (putK kvs (.inl n) v)))) : kPut2 v D σ (.ref a) (.int n) H :=
  ⟨a, _, rfl, DPut.k (k := Sum.inl n) h (szl hl), q⟩
theorem wp_dnew (q : ∀ p, H p = none → Q (.ref p) (upd H p (.dK []))) : tDNewK σ H Q := q
def kIn (Q : VK) : V → V → Hp → Prop := fun y x H2 => ∃ a o, x = .ref a ∧ DGet H2 a y o ∧ Q (.bl o.isSome) H2
def kNin (Q : VK) : V → V → Hp → Prop := fun y x H2 => ∃ a o, x = .ref a ∧ DGet H2 a y o ∧ Q (.bl (!o.isSome)) H2
theorem wp_din {ty td : TE} (q : ty σ H fun y H1 => td σ H1 fun x H2 => kIn Q y x H2) : tDIn ty td σ H Q := q
theorem wp_dnin {ty td : TE} (q : ty σ H fun y H1 => td σ H1 fun x H2 => kNin Q y x H2) : tDNotIn ty td σ H Q := q
theorem wp_kIn {kvs : List (Key × V)} {n : Int} (h : Rd H a (.dK kvs)) (q : Q (.bl (valV kvs (.inl n)).isSome) H) : kIn Q (.int n) (.ref a) H := ⟨a, _, rfl, .inl ⟨kvs, .inl n, h, rfl, rfl⟩, q⟩
theorem wp_kNin {kvs : List (Key × V)} {n : Int} (h : Rd H a (.dK kvs)) (q : Q (.bl (!(valV kvs (.inl n)).isSome)) H) : kNin Q (.int n) (.ref a) H := ⟨a, _, rfl, .inl ⟨kvs, .inl n, h, rfl, rfl⟩, q⟩
def kGet (Q : VK) : V → V → Hp → Prop := fun x y H2 => ∃ a v, x = .ref a ∧ DGet H2 a y (some v) ∧ Q v H2
theorem wp_dget {td ty : TE} (q : td σ H fun x H1 => ty σ H1 fun y H2 => kGet Q x y H2) : tDGet td ty σ H Q := q
theorem wp_kGet {kvs : List (Key × V)} {n : Int} (h : Rd H a (.dK kvs)) (e : valV kvs (.inl n) = some v) (q : Q v H) : kGet Q (.ref a) (.int n) H := ⟨a, v, rfl, .inl ⟨kvs, .inl n, h, rfl, e.symm⟩, q⟩
theorem putK_len' (kvs : List (Key × V)) (k : Key) (x : V) : (putK kvs k x).length ≤ kvs.length + 1 := by
  unfold putK
  split
  · simp
  · simp
end

/-! ### sums from the beginning -/
def pre (ns : List Int) (i : Nat) : Int := (ns.take i).sum
/-- all of them -/
def psums (ns : List Int) : List Int := (List.range (ns.length + 1)).map (pre ns)
def psumsTo (ns : List Int) (i : Nat) : List Int := (List.range (i + 1)).map (pre ns)
theorem psumsTo_zero (ns : List Int) : psumsTo ns 0 = [0] := by simp [psumsTo, pre]
theorem psumsTo_all (ns : List Int) : psumsTo ns ns.length = psums ns := rfl
theorem psums_length (ns : List Int) : (psums ns).length = ns.length + 1 := by simp [psums]
theorem psumsTo_length (ns : List Int) (i : Nat) : (psumsTo ns i).length = i + 1 := by simp [psumsTo]
theorem pre_zero (ns : List Int) : pre ns 0 = 0 := by simp [pre]
theorem pre_succ {ns : List Int} {i : Nat} (h : i < ns.length) : pre ns (i + 1) = pre ns i + nth ns i := by
  have e : ns[i]? = some (nth ns i) := by simp [nth, h]
  exact sum_take e
theorem nth_psumsTo (ns : List Int) {i j : Nat} (h : j ≤ i) : nth (psumsTo ns i) j = pre ns j := by
  unfold nth psumsTo
  have : j < i + 1 := by omega
  simp [this]
theorem nth_psums (ns : List Int) {j : Nat} (h : j ≤ ns.length) : nth (psums ns) j = pre ns j := nth_psumsTo ns h
theorem psumsTo_succ {ns : List Int} {i : Nat} (h : i < ns.length) : psumsTo ns (i + 1) = psumsTo ns i ++ [pre ns i + nth ns i] := by
  unfold psumsTo
  rw [List.range_succ, List.map_append, ← pre_succ h]
  try rfl
theorem psums_nil : psums [] = [0] := by simp [psums, pre]
theorem psums_cons (n : Int) (r : List Int) : psums (n :: r) = 0 :: (psums r).map (n + ·) := by
  unfold psums
  rw [List.length_cons, List.range_succ_eq_map, List.map_cons, List.map_map, List.map_map, pre_zero]
  congr 1
theorem psums_neg (r : List Int) : psums (r.map (- ·)) = (psums r).map (- ·) := by
  induction r with
  | nil => simp [psums_nil]
  | cons n r ih =>
    rw [List.map_cons, psums_cons, psums_cons, ih, List.map_cons, List.map_map, List.map_map]
    congr 1
    apply List.map_congr_left
    intro x _
    simp
    omega
theorem psums_snoc (r : List Int) (n : Int) : psums (r ++ [n]) = psums r ++ [r.sum + n] := by
  unfold psums
  rw [List.length_append, List.length_singleton, List.range_succ, List.map_append]
  congr 1
  · apply List.map_congr_left
    intro i hi
    rw [List.mem_range] at hi
    unfold pre
    rw [List.take_append_of_le_length (by omega)]
  · have : (r ++ [n]).take (r.length + 1) = r ++ [n] := List.take_of_length_le (by simp)
    simp [pre, this]
theorem psums_rev (r : List Int) : psums r.reverse = (psums r).reverse.map (r.sum - ·) := by
  induction r with
  | nil => simp [psums_nil]
  | cons n r ih =>
    rw [List.reverse_cons, psums_snoc, ih, psums_cons, List.reverse_cons, List.map_append, List.sum_cons, ← List.map_reverse, List.map_map]
    congr 1
    · apply List.map_congr_left
      intro x _
      simp
      omega
    · have e : ∀ l : List Int, l.reverse.sum = l.sum := fun l => by
        induction l with
        | nil => rfl
        | cons x l ih => rw [List.reverse_cons, List.sum_append, ih]; simp; omega
      simp
      omega
/-! ### how many pairs part by t -/
def pairs (t : Int) : List Int → Int
  | [] => 0
  | x :: r => (r.count (x + t) : Int) + pairs t r
theorem pairs_snoc (t : Int) (l : List Int) (y : Int) : pairs t (l ++ [y]) = pairs t l + (l.count (y - t) : Int) := by
  induction l with
  | nil => simp [pairs]
  | cons x r ih =>
    rw [List.cons_append, pairs, pairs, ih, List.count_append]
    simp only [List.count_cons, List.count_nil, beq_iff_eq]
    by_cases e : x + t = y
    · rw [if_pos e.symm, if_pos (show x = y - t by omega)]
      omega
    · rw [if_neg (fun z => e z.symm), if_neg (show ¬ x = y - t by omega)]
      omega
theorem count_map_of {f : Int → Int} (hf : ∀ x y, f x = f y → x = y) (l : List Int) (x : Int) : (l.map f).count (f x) = l.count x := by
  induction l with
  | nil => rfl
  | cons y r ih =>
    rw [List.map_cons, List.count_cons, List.count_cons, ih]
    by_cases e : y = x
    · simp [e]
    · have e2 : ¬ f y = f x := fun z => e (hf _ _ z)
      simp [e, e2]
theorem pairs_neg (t : Int) (l : List Int) : pairs (-t) (l.map (- ·)) = pairs t l := by
  induction l with
  | nil => rfl
  | cons x r ih =>
    rw [List.map_cons, pairs, pairs, ih]
    have e : -x + -t = -(x + t) := by omega
    rw [e, count_map_of (f := (- ·)) (fun a b h => by simp at h; exact h)]
theorem count_rev (l : List Int) (x : Int) : l.reverse.count x = l.count x := by
  induction l with
  | nil => rfl
  | cons y r ih =>
    rw [List.reverse_cons, List.count_append, ih]
    simp only [List.count_cons, List.count_nil]
    omega
theorem pairs_rev (t S : Int) (l : List Int) : pairs t (l.reverse.map (S - ·)) = pairs t l := by
  induction l with
  | nil => rfl
  | cons x r ih =>
    rw [List.reverse_cons, List.map_append, List.map_cons, List.map_nil, pairs_snoc, ih, pairs]
    have e : S - x - t = S - (x + t) := by omega
    rw [e, count_map_of (f := (S - ·)) (fun a b h => by simp at h; omega), count_rev]
    omega
/-- how many stretches have the sum t -/
def cntOf (ns : List Int) (t : Int) : Int := pairs t (psums ns)
theorem cntOf_neg (ns : List Int) (t : Int) : cntOf (ns.map (- ·)) (-t) = cntOf ns t := by
  unfold cntOf
  rw [psums_neg, pairs_neg]
theorem cntOf_rev (ns : List Int) (t : Int) : cntOf ns.reverse t = cntOf ns t := by
  unfold cntOf
  rw [psums_rev, pairs_rev]
/-! ### a dict that counts -/
def CntD (kvs : List (Key × V)) (l : List Int) : Prop := (∀ v : Int, (valV kvs (.inl v)).getD (.int 0) = .int (l.count v)) ∧ kvs.length ≤ l.length
theorem cntD_nil : CntD [] [] := ⟨fun v => by simp [valV_nil], by simp⟩
theorem cntD_put {kvs : List (Key × V)} {l l' : List Int} {y : Int} (h : CntD kvs l) (hl : ∀ v, l'.count v = l.count v + if v = y then 1 else 0) (hn : l'.length = l.length + 1) :
    CntD (putK kvs (.inl y) (.int ((l.count y : Int) + 1))) l' := by
  refine ⟨fun v => ?_, ?_⟩
  · rw [valV_put, hl v]
    by_cases e : v = y
    · subst e
      simp
    · have : ¬ (Sum.inl v : Key) = Sum.inl y := fun z => e (Sum.inl.inj z)
      rw [if_neg this, if_neg e, h.1 v]
      simp
  · have := putK_len' kvs (.inl y) (.int ((l.count y : Int) + 1))
    have := h.2
    omega
/-! ### the law's row -/
def lmost (ns : List Int) : Int := nth [3, 10, 10, 1000000] (ns.sum % 4)
def lrow (ns : List Int) : List Int := ns.map fun c => c % (2 * lmost ns + 1) - lmost ns
theorem lmost_cases (ns : List Int) : lmost ns = 3 ∨ lmost ns = 10 ∨ lmost ns = 1000000 := by
  unfold lmost
  have h1 : 0 ≤ ns.sum % 4 := Int.emod_nonneg _ (by decide)
  have h2 : ns.sum % 4 < 4 := Int.emod_lt_of_pos _ (by decide)
  have : ns.sum % 4 = 0 ∨ ns.sum % 4 = 1 ∨ ns.sum % 4 = 2 ∨ ns.sum % 4 = 3 := by omega
  rcases this with e | e | e | e <;> rw [e]
  · exact .inl rfl
  · exact .inr (.inl rfl)
  · exact .inr (.inl rfl)
  · exact .inr (.inr rfl)
/-- a row that is no refusal -/
def IsRow (ns : List Int) : Prop := ∀ n ∈ ns, -1000000 ≤ n ∧ n ≤ 1000000
theorem lrow_length (ns : List Int) : (lrow ns).length = ns.length := by simp [lrow]
theorem lrow_row (ns : List Int) : IsRow (lrow ns) := by
  intro n hn
  unfold lrow at hn
  obtain ⟨c, _, rfl⟩ := List.mem_map.mp hn
  rcases lmost_cases ns with e | e | e <;> rw [e] <;> omega
theorem IsRow.rev {ns : List Int} (h : IsRow ns) : IsRow ns.reverse := fun n hn => h n (by simpa using hn)
theorem IsRow.neg {ns : List Int} (h : IsRow ns) : IsRow (ns.map (- ·)) := fun n hn => by
  obtain ⟨m, hm, rfl⟩ := List.mem_map.mp hn
  have := h m hm
  omega
theorem nth_mem {ns : List Int} {i : Nat} (h : i < ns.length) : nth ns i ∈ ns := by
  have : nth ns i = ns[i] := by simp [nth, h]
  rw [this]
  exact List.getElem_mem h
end Bs

namespace Bs
open PySem L2
theorem ne_bounds_ins : ¬ (("bounds" : Str) = "ins") := by decide +kernel
theorem bq_bounds_ins : (("bounds" : Str) == "ins") = false := by decide +kernel
theorem ne_bounds_outs : ¬ (("bounds" : Str) = "outs") := by decide +kernel
theorem bq_bounds_outs : (("bounds" : Str) == "outs") = false := by decide +kernel
theorem ne_bounds_price : ¬ (("bounds" : Str) = "price") := by decide +kernel
theorem bq_bounds_price : (("bounds" : Str) == "price") = false := by decide +kernel
theorem ne_bounds_stretches : ¬ (("bounds" : Str) = "stretches") := by decide +kernel
theorem bq_bounds_stretches : (("bounds" : Str) == "stretches") = false := by decide +kernel
theorem ne_first_lows : ¬ (("first" : Str) = "lows") := by decide +kernel
theorem bq_first_lows : (("first" : Str) == "lows") = false := by decide +kernel
theorem ne_first_many : ¬ (("first" : Str) = "many") := by decide +kernel
theorem bq_first_many : (("first" : Str) == "many") = false := by decide +kernel
theorem ne_first_tops : ¬ (("first" : Str) = "tops") := by decide +kernel
theorem bq_first_tops : (("first" : Str) == "tops") = false := by decide +kernel
theorem ne_ins_outs : ¬ (("ins" : Str) = "outs") := by decide +kernel
theorem bq_ins_outs : (("ins" : Str) == "outs") = false := by decide +kernel
theorem ne_ins_price : ¬ (("ins" : Str) = "price") := by decide +kernel
theorem bq_ins_price : (("ins" : Str) == "price") = false := by decide +kernel
theorem ne_ins_stretches : ¬ (("ins" : Str) = "stretches") := by decide +kernel
theorem bq_ins_stretches : (("ins" : Str) == "stretches") = false := by decide +kernel
theorem ne_lows_first : ¬ (("lows" : Str) = "first") := by decide +kernel
theorem bq_lows_first : (("lows" : Str) == "first") = false := by decide +kernel
theorem ne_lows_many : ¬ (("lows" : Str) = "many") := by decide +kernel
theorem bq_lows_many : (("lows" : Str) == "many") = false := by decide +kernel
theorem ne_lows_tops : ¬ (("lows" : Str) = "tops") := by decide +kernel
theorem bq_lows_tops : (("lows" : Str) == "tops") = false := by decide +kernel
theorem ne_many_first : ¬ (("many" : Str) = "first") := by decide +kernel
theorem bq_many_first : (("many" : Str) == "first") = false := by decide +kernel
theorem ne_many_lows : ¬ (("many" : Str) = "lows") := by decide +kernel
theorem bq_many_lows : (("many" : Str) == "lows") = false := by decide +kernel
theorem ne_many_tops : ¬ (("many" : Str) = "tops") := by decide +kernel
theorem bq_many_tops : (("many" : Str) == "tops") = false := by decide +kernel
theorem ne_outs_ins : ¬ (("outs" : Str) = "ins") := by decide +kernel
theorem bq_outs_ins : (("outs" : Str) == "ins") = false := by decide +kernel
theorem ne_outs_price : ¬ (("outs" : Str) = "price") := by decide +kernel
theorem bq_outs_price : (("outs" : Str) == "price") = false := by decide +kernel
theorem ne_outs_stretches : ¬ (("outs" : Str) = "stretches") := by decide +kernel
theorem bq_outs_stretches : (("outs" : Str) == "stretches") = false := by decide +kernel
theorem ne_price_ins : ¬ (("price" : Str) = "ins") := by decide +kernel
theorem bq_price_ins : (("price" : Str) == "ins") = false := by decide +kernel
theorem ne_price_outs : ¬ (("price" : Str) = "outs") := by decide +kernel
theorem bq_price_outs : (("price" : Str) == "outs") = false := by decide +kernel
theorem ne_price_stretches : ¬ (("price" : Str) = "stretches") := by decide +kernel
theorem bq_price_stretches : (("price" : Str) == "stretches") = false := by decide +kernel
theorem ne_shows_first : ¬ (("shows" : Str) = "first") := by decide +kernel
theorem bq_shows_first : (("shows" : Str) == "first") = false := by decide +kernel
theorem ne_shows_ins : ¬ (("shows" : Str) = "ins") := by decide +kernel
theorem bq_shows_ins : (("shows" : Str) == "ins") = false := by decide +kernel
theorem ne_shows_lows : ¬ (("shows" : Str) = "lows") := by decide +kernel
theorem bq_shows_lows : (("shows" : Str) == "lows") = false := by decide +kernel
theorem ne_shows_many : ¬ (("shows" : Str) = "many") := by decide +kernel
theorem bq_shows_many : (("shows" : Str) == "many") = false := by decide +kernel
theorem ne_shows_outs : ¬ (("shows" : Str) = "outs") := by decide +kernel
theorem bq_shows_outs : (("shows" : Str) == "outs") = false := by decide +kernel
theorem ne_shows_price : ¬ (("shows" : Str) = "price") := by decide +kernel
theorem bq_shows_price : (("shows" : Str) == "price") = false := by decide +kernel
theorem ne_shows_stretches : ¬ (("shows" : Str) = "stretches") := by decide +kernel
theorem bq_shows_stretches : (("shows" : Str) == "stretches") = false := by decide +kernel
theorem ne_shows_table : ¬ (("shows" : Str) = "table") := by decide +kernel
theorem bq_shows_table : (("shows" : Str) == "table") = false := by decide +kernel
theorem ne_shows_tops : ¬ (("shows" : Str) = "tops") := by decide +kernel
theorem bq_shows_tops : (("shows" : Str) == "tops") = false := by decide +kernel
theorem ne_stretches_ins : ¬ (("stretches" : Str) = "ins") := by decide +kernel
theorem bq_stretches_ins : (("stretches" : Str) == "ins") = false := by decide +kernel
theorem ne_stretches_outs : ¬ (("stretches" : Str) = "outs") := by decide +kernel
theorem bq_stretches_outs : (("stretches" : Str) == "outs") = false := by decide +kernel
theorem ne_stretches_price : ¬ (("stretches" : Str) = "price") := by decide +kernel
theorem bq_stretches_price : (("stretches" : Str) == "price") = false := by decide +kernel
theorem ne_tops_first : ¬ (("tops" : Str) = "first") := by decide +kernel
theorem bq_tops_first : (("tops" : Str) == "first") = false := by decide +kernel
theorem ne_tops_lows : ¬ (("tops" : Str) = "lows") := by decide +kernel
theorem bq_tops_lows : (("tops" : Str) == "lows") = false := by decide +kernel
theorem ne_tops_many : ¬ (("tops" : Str) = "many") := by decide +kernel
theorem bq_tops_many : (("tops" : Str) == "many") = false := by decide +kernel
def fBest (x0 : Int) (x1 : Int) (x2 : Addr) : List (Str × V) := [("first", V.int x0), ("many", V.int x1), ("lows", V.ref x2)]
theorem fBest_len {x0 : Int} {x1 : Int} {x2 : Addr} : (fBest x0 x1 x2).length < 1000 := by show 3 < 1000; decide
theorem lk_Best_first {x0 : Int} {x1 : Int} {x2 : Addr} : (fBest x0 x1 x2).lookup ("first" : Str) = some (.int x0) := by simp only [fBest, List.lookup_cons, beq_self_eq_true]
theorem pt_Best_first {x0 : Int} : putF "first" (.int x0) ([] : List (Str × V)) = ([("first", V.int x0)] : List (Str × V)) := by simp only [putF]
theorem lk_Best_many {x0 : Int} {x1 : Int} {x2 : Addr} : (fBest x0 x1 x2).lookup ("many" : Str) = some (.int x1) := by simp only [fBest, List.lookup_cons, bq_many_first, beq_self_eq_true]
theorem pt_Best_many {x0 : Int} {x1 : Int} : putF "many" (.int x1) ([("first", V.int x0)] : List (Str × V)) = ([("first", V.int x0), ("many", V.int x1)] : List (Str × V)) := by simp only [putF, if_neg ne_first_many]
theorem lk_Best_lows {x0 : Int} {x1 : Int} {x2 : Addr} : (fBest x0 x1 x2).lookup ("lows" : Str) = some (.ref x2) := by simp only [fBest, List.lookup_cons, bq_lows_first, bq_lows_many, beq_self_eq_true]
theorem pt_Best_lows {x0 : Int} {x1 : Int} {x2 : Addr} : putF "lows" (.ref x2) ([("first", V.int x0), ("many", V.int x1)] : List (Str × V)) = ([("first", V.int x0), ("many", V.int x1), ("lows", V.ref x2)] : List (Str × V)) := by simp only [putF, if_neg ne_first_lows, if_neg ne_many_lows]
theorem no_Best_shows {x0 : Int} {x1 : Int} {x2 : Addr} : (fBest x0 x1 x2).lookup ("shows" : Str) = none := by simp only [fBest, List.lookup_cons, List.lookup_nil, bq_shows_first, bq_shows_many, bq_shows_lows]
structure OkBest (K : PySem.W.Frag) (C : Addr) : Prop where
  cl : Cls K C
  first : NoAttr K C "first"
  many : NoAttr K C "many"
  lows : NoAttr K C "lows"
def fSteep (x0 : Int) (x1 : Int) (x2 : Addr) : List (Str × V) := [("first", V.int x0), ("many", V.int x1), ("lows", V.ref x2)]
theorem fSteep_len {x0 : Int} {x1 : Int} {x2 : Addr} : (fSteep x0 x1 x2).length < 1000 := by show 3 < 1000; decide
theorem lk_Steep_first {x0 : Int} {x1 : Int} {x2 : Addr} : (fSteep x0 x1 x2).lookup ("first" : Str) = some (.int x0) := by simp only [fSteep, List.lookup_cons, beq_self_eq_true]
theorem pt_Steep_first {x0 : Int} : putF "first" (.int x0) ([] : List (Str × V)) = ([("first", V.int x0)] : List (Str × V)) := by simp only [putF]
theorem lk_Steep_many {x0 : Int} {x1 : Int} {x2 : Addr} : (fSteep x0 x1 x2).lookup ("many" : Str) = some (.int x1) := by simp only [fSteep, List.lookup_cons, bq_many_first, beq_self_eq_true]
theorem pt_Steep_many {x0 : Int} {x1 : Int} : putF "many" (.int x1) ([("first", V.int x0)] : List (Str × V)) = ([("first", V.int x0), ("many", V.int x1)] : List (Str × V)) := by simp only [putF, if_neg ne_first_many]
theorem lk_Steep_lows {x0 : Int} {x1 : Int} {x2 : Addr} : (fSteep x0 x1 x2).lookup ("lows" : Str) = some (.ref x2) := by simp only [fSteep, List.lookup_cons, bq_lows_first, bq_lows_many, beq_self_eq_true]
theorem pt_Steep_lows {x0 : Int} {x1 : Int} {x2 : Addr} : putF "lows" (.ref x2) ([("first", V.int x0), ("many", V.int x1)] : List (Str × V)) = ([("first", V.int x0), ("many", V.int x1), ("lows", V.ref x2)] : List (Str × V)) := by simp only [putF, if_neg ne_first_lows, if_neg ne_many_lows]
theorem no_Steep_shows {x0 : Int} {x1 : Int} {x2 : Addr} : (fSteep x0 x1 x2).lookup ("shows" : Str) = none := by simp only [fSteep, List.lookup_cons, List.lookup_nil, bq_shows_first, bq_shows_many, bq_shows_lows]
structure OkSteep (K : PySem.W.Frag) (C : Addr) : Prop where
  cl : Cls K C
  first : NoAttr K C "first"
  many : NoAttr K C "many"
  lows : NoAttr K C "lows"
def fAround (x0 : Int) (x1 : Int) (x2 : Addr) (x3 : Addr) : List (Str × V) := [("first", V.int x0), ("many", V.int x1), ("lows", V.ref x2), ("tops", V.ref x3)]
theorem fAround_len {x0 : Int} {x1 : Int} {x2 : Addr} {x3 : Addr} : (fAround x0 x1 x2 x3).length < 1000 := by show 4 < 1000; decide
theorem lk_Around_first {x0 : Int} {x1 : Int} {x2 : Addr} {x3 : Addr} : (fAround x0 x1 x2 x3).lookup ("first" : Str) = some (.int x0) := by simp only [fAround, List.lookup_cons, beq_self_eq_true]
theorem pt_Around_first {x0 : Int} : putF "first" (.int x0) ([] : List (Str × V)) = ([("first", V.int x0)] : List (Str × V)) := by simp only [putF]
theorem lk_Around_many {x0 : Int} {x1 : Int} {x2 : Addr} {x3 : Addr} : (fAround x0 x1 x2 x3).lookup ("many" : Str) = some (.int x1) := by simp only [fAround, List.lookup_cons, bq_many_first, beq_self_eq_true]
theorem pt_Around_many {x0 : Int} {x1 : Int} : putF "many" (.int x1) ([("first", V.int x0)] : List (Str × V)) = ([("first", V.int x0), ("many", V.int x1)] : List (Str × V)) := by simp only [putF, if_neg ne_first_many]
theorem lk_Around_lows {x0 : Int} {x1 : Int} {x2 : Addr} {x3 : Addr} : (fAround x0 x1 x2 x3).lookup ("lows" : Str) = some (.ref x2) := by simp only [fAround, List.lookup_cons, bq_lows_first, bq_lows_many, beq_self_eq_true]
theorem pt_Around_lows {x0 : Int} {x1 : Int} {x2 : Addr} : putF "lows" (.ref x2) ([("first", V.int x0), ("many", V.int x1)] : List (Str × V)) = ([("first", V.int x0), ("many", V.int x1), ("lows", V.ref x2)] : List (Str × V)) := by simp only [putF, if_neg ne_first_lows, if_neg ne_many_lows]
theorem lk_Around_tops {x0 : Int} {x1 : Int} {x2 : Addr} {x3 : Addr} : (fAround x0 x1 x2 x3).lookup ("tops" : Str) = some (.ref x3) := by simp only [fAround, List.lookup_cons, bq_tops_first, bq_tops_many, bq_tops_lows, beq_self_eq_true]
theorem pt_Around_tops {x0 : Int} {x1 : Int} {x2 : Addr} {x3 : Addr} : putF "tops" (.ref x3) ([("first", V.int x0), ("many", V.int x1), ("lows", V.ref x2)] : List (Str × V)) = ([("first", V.int x0), ("many", V.int x1), ("lows", V.ref x2), ("tops", V.ref x3)] : List (Str × V)) := by simp only [putF, if_neg ne_first_tops, if_neg ne_many_tops, if_neg ne_lows_tops]
theorem no_Around_shows {x0 : Int} {x1 : Int} {x2 : Addr} {x3 : Addr} : (fAround x0 x1 x2 x3).lookup ("shows" : Str) = none := by simp only [fAround, List.lookup_cons, List.lookup_nil, bq_shows_first, bq_shows_many, bq_shows_lows, bq_shows_tops]
structure OkAround (K : PySem.W.Frag) (C : Addr) : Prop where
  cl : Cls K C
  first : NoAttr K C "first"
  many : NoAttr K C "many"
  lows : NoAttr K C "lows"
  tops : NoAttr K C "tops"
def fExact (x0 : Int) (x1 : Int) : List (Str × V) := [("first", V.int x0), ("many", V.int x1)]
theorem fExact_len {x0 : Int} {x1 : Int} : (fExact x0 x1).length < 1000 := by show 2 < 1000; decide
theorem lk_Exact_first {x0 : Int} {x1 : Int} : (fExact x0 x1).lookup ("first" : Str) = some (.int x0) := by simp only [fExact, List.lookup_cons, beq_self_eq_true]
theorem pt_Exact_first {x0 : Int} : putF "first" (.int x0) ([] : List (Str × V)) = ([("first", V.int x0)] : List (Str × V)) := by simp only [putF]
theorem lk_Exact_many {x0 : Int} {x1 : Int} : (fExact x0 x1).lookup ("many" : Str) = some (.int x1) := by simp only [fExact, List.lookup_cons, bq_many_first, beq_self_eq_true]
theorem pt_Exact_many {x0 : Int} {x1 : Int} : putF "many" (.int x1) ([("first", V.int x0)] : List (Str × V)) = ([("first", V.int x0), ("many", V.int x1)] : List (Str × V)) := by simp only [putF, if_neg ne_first_many]
theorem no_Exact_shows {x0 : Int} {x1 : Int} : (fExact x0 x1).lookup ("shows" : Str) = none := by simp only [fExact, List.lookup_cons, List.lookup_nil, bq_shows_first, bq_shows_many]
structure OkExact (K : PySem.W.Frag) (C : Addr) : Prop where
  cl : Cls K C
  first : NoAttr K C "first"
  many : NoAttr K C "many"
def fNever (x0 : Addr) : List (Str × V) := [("table", V.ref x0)]
theorem fNever_len {x0 : Addr} : (fNever x0).length < 1000 := by show 1 < 1000; decide
theorem lk_Never_table {x0 : Addr} : (fNever x0).lookup ("table" : Str) = some (.ref x0) := by simp only [fNever, List.lookup_cons, beq_self_eq_true]
theorem pt_Never_table {x0 : Addr} : putF "table" (.ref x0) ([] : List (Str × V)) = ([("table", V.ref x0)] : List (Str × V)) := by simp only [putF]
theorem no_Never_shows {x0 : Addr} : (fNever x0).lookup ("shows" : Str) = none := by simp only [fNever, List.lookup_cons, List.lookup_nil, bq_shows_table]
structure OkNever (K : PySem.W.Frag) (C : Addr) : Prop where
  cl : Cls K C
  table : NoAttr K C "table"
def fSeveral (x0 : Addr) (x1 : Int) (x2 : Addr) (x3 : Addr) : List (Str × V) := [("stretches", V.ref x0), ("price", V.int x1), ("outs", V.ref x2), ("ins", V.ref x3)]
theorem fSeveral_len {x0 : Addr} {x1 : Int} {x2 : Addr} {x3 : Addr} : (fSeveral x0 x1 x2 x3).length < 1000 := by show 4 < 1000; decide
theorem lk_Several_stretches {x0 : Addr} {x1 : Int} {x2 : Addr} {x3 : Addr} : (fSeveral x0 x1 x2 x3).lookup ("stretches" : Str) = some (.ref x0) := by simp only [fSeveral, List.lookup_cons, beq_self_eq_true]
theorem pt_Several_stretches {x0 : Addr} : putF "stretches" (.ref x0) ([] : List (Str × V)) = ([("stretches", V.ref x0)] : List (Str × V)) := by simp only [putF]
theorem lk_Several_price {x0 : Addr} {x1 : Int} {x2 : Addr} {x3 : Addr} : (fSeveral x0 x1 x2 x3).lookup ("price" : Str) = some (.int x1) := by simp only [fSeveral, List.lookup_cons, bq_price_stretches, beq_self_eq_true]
theorem pt_Several_price {x0 : Addr} {x1 : Int} : putF "price" (.int x1) ([("stretches", V.ref x0)] : List (Str × V)) = ([("stretches", V.ref x0), ("price", V.int x1)] : List (Str × V)) := by simp only [putF, if_neg ne_stretches_price]
theorem lk_Several_outs {x0 : Addr} {x1 : Int} {x2 : Addr} {x3 : Addr} : (fSeveral x0 x1 x2 x3).lookup ("outs" : Str) = some (.ref x2) := by simp only [fSeveral, List.lookup_cons, bq_outs_stretches, bq_outs_price, beq_self_eq_true]
theorem pt_Several_outs {x0 : Addr} {x1 : Int} {x2 : Addr} : putF "outs" (.ref x2) ([("stretches", V.ref x0), ("price", V.int x1)] : List (Str × V)) = ([("stretches", V.ref x0), ("price", V.int x1), ("outs", V.ref x2)] : List (Str × V)) := by simp only [putF, if_neg ne_stretches_outs, if_neg ne_price_outs]
theorem lk_Several_ins {x0 : Addr} {x1 : Int} {x2 : Addr} {x3 : Addr} : (fSeveral x0 x1 x2 x3).lookup ("ins" : Str) = some (.ref x3) := by simp only [fSeveral, List.lookup_cons, bq_ins_stretches, bq_ins_price, bq_ins_outs, beq_self_eq_true]
theorem pt_Several_ins {x0 : Addr} {x1 : Int} {x2 : Addr} {x3 : Addr} : putF "ins" (.ref x3) ([("stretches", V.ref x0), ("price", V.int x1), ("outs", V.ref x2)] : List (Str × V)) = ([("stretches", V.ref x0), ("price", V.int x1), ("outs", V.ref x2), ("ins", V.ref x3)] : List (Str × V)) := by simp only [putF, if_neg ne_stretches_ins, if_neg ne_price_ins, if_neg ne_outs_ins]
theorem no_Several_shows {x0 : Addr} {x1 : Int} {x2 : Addr} {x3 : Addr} : (fSeveral x0 x1 x2 x3).lookup ("shows" : Str) = none := by simp only [fSeveral, List.lookup_cons, List.lookup_nil, bq_shows_stretches, bq_shows_price, bq_shows_outs, bq_shows_ins]
theorem no_Several_bounds {x0 : Addr} {x1 : Int} {x2 : Addr} {x3 : Addr} : (fSeveral x0 x1 x2 x3).lookup ("bounds" : Str) = none := by simp only [fSeveral, List.lookup_cons, List.lookup_nil, bq_bounds_stretches, bq_bounds_price, bq_bounds_outs, bq_bounds_ins]
structure OkSeveral (K : PySem.W.Frag) (C : Addr) : Prop where
  cl : Cls K C
  stretches : NoAttr K C "stretches"
  price : NoAttr K C "price"
  outs : NoAttr K C "outs"
  ins : NoAttr K C "ins"
theorem kitOne_of {K : PySem.W.Frag} {C D : Addr} {b : Bool} (h1 : PySem.W.isClsIn K D = true) (h2 : PySem.W.typeIn K (.ref D) = some (.type "type")) (h3 : PySem.W.subIn K (.ref C) (.ref D) = some b) (h4 : PySem.W.subIn K (.ref C) (.ref C) = some true) :
    PySem.W.kitOne K (.ref C) (.ref D) = some b := by
  have e2 : ((PySem.W.clsIn K D).isSome && PySem.W.typeIn K (.ref D) == some (.type "type")) = true := by
    have h1' : (PySem.W.clsIn K D).isSome = true := h1
    rw [h1', h2] <;> rfl
  unfold PySem.W.kitOne
  by_cases e : (Value.ref C == Value.ref D) = true
  · rw [if_pos e]
    have : C = D := by
      have := eq_of_beq e
      injection this
    subst this
    rw [h4] at h3
    exact h3
  · rw [if_neg e]
    show (if ((PySem.W.clsIn K D).isSome && PySem.W.typeIn K (.ref D) == some (.type "type")) = true then PySem.W.subIn K (.ref C) (.ref D) else none) = some b
    rw [if_pos e2]
    exact h3
/-- what isinstance asks of an own class -/
structure IsiC (K : PySem.W.Frag) (C : Addr) : Prop where
  cl : Cls K C
  ha : PySem.W.findIn K (.ref C) "__class__" = some (some (.builtin "object.__class__"))
  hn : PySem.W.specialIn K (.builtin "object.__class__") "__get__" = some (some (.builtin "getset_descriptor.__get__"))
  tk : PySem.W.takesIn K (.builtin "object.__class__") = some true
  hm : PySem.W.mroIn K C (.type "object") = some true
section
variable {K : PySem.W.Frag} {σ σ' : L2.St} {H H' : Hp} {Q : VK} {ta tv : TE} {D : Ends} {v x y : V} {a C C' dx : Addr} {fs fs' : List (Str × V)} {f m : Str} {b : Bool} {vs : List V}
theorem isi_own (I : IsiC K C) (h : H a = some (.ins C dx fs)) (k : PySem.W.kitOne K (.ref C) (.ref C') = some b) (q : Q (.bl b) H) : rIsi K [.ref a, .ref C'] H Q :=
  ⟨_, _, _, _, b, rfl, .own C', .base (.ins h I.cl I.ha I.hn I.tk I.hm), k, q⟩
theorem isi_own' (h : H a = some (.ins C dx fs)) (I : IsiC K C) (k : PySem.W.kitOne K (.ref C) (.ref C') = some b) (q : Q (.bl b) H) : rIsi K [.ref a, .ref C'] H Q := isi_own I h k q
theorem wp_fld (q : ta σ H (kFld K f Q)) : tFld K ta f σ H Q := q
theorem wp_kFld (h : H a = some (.ins C dx fs)) (c : Cls K C) (n : NoAttr K C f) (l : fs.lookup f = some v) (q : Q v H) : kFld K f Q (.ref a) H := ⟨a, C, dx, fs, v, rfl, h, c, n, l, q⟩
def kPutF (K : PySem.W.Frag) (f : Str) (y : V) (D : Ends) (σ : L2.St) : VK := fun x H2 => ∃ a C dx fs, x = .ref a ∧ H2 a = some (.ins C dx fs) ∧ Cls K C ∧ NoAttr K C f ∧ fs.length < 1000 ∧ D.nx σ (upd H2 a (.ins C dx (putF f y fs)))
theorem wp_sfld (q : tv σ H fun y H1 => ta σ H1 fun x H2 => kPutF K f y D σ x H2) : sFld K ta tv f D σ H := q
theorem wp_kPutF (h : H a = some (.ins C dx fs)) (c : Cls K C) (n : NoAttr K C f) (l : fs.length < 1000) (e : putF f y fs = fs') (q : D.nx σ (upd H a (.ins C dx fs'))) : kPutF K f y D σ (.ref a) H :=
  ⟨a, C, dx, fs, rfl, h, c, n, l, by rw [e]; exact q⟩
def kCallM (x : V) (sp : Sp) (dvs : List V) (E : XK) (Q : VK) : List V → Hp → Prop := fun vs H => sp (x :: (vs ++ dvs)) H Q E
theorem wp_meth {sp : Sp} {dvs : List V} {E : XK} {t : TA} (q : ta σ H (kMeth C m sp dvs E t σ Q)) : tMeth C m sp dvs E ta t σ H Q := q
theorem wp_kMeth {sp : Sp} {dvs : List V} {E : XK} {t : TA} (h : H a = some (.ins C dx fs)) (n : fs.lookup m = none) (q : t σ H (kCallM (.ref a) sp dvs E Q)) : kMeth C m sp dvs E t σ Q (.ref a) H := ⟨a, dx, fs, rfl, h, n, q⟩
theorem wp_kCallM {sp : Sp} {E : XK} (q : sp (x :: vs) H Q E) : kCallM x sp [] E Q vs H := by
  show sp (x :: (vs ++ [])) H Q E
  rw [List.append_nil]
  exact q
theorem wp_make {sp : Sp} {dvs : List V} {E : XK} {t : TA} (q : t σ H (kMake C sp dvs E Q)) : tMake C sp dvs E t σ H Q := q
theorem wp_kMake {sp : Sp} {E : XK} (q : ∀ x dx, H x = none → H dx = none → dx ≠ x → sp (.ref x :: vs) (upd (upd H dx (.own x)) x (.ins C dx [])) (fun v H2 => v = .non ∧ Q (.ref x) H2) E) : kMake C sp [] E Q vs H := by
  intro x dx h1 h2 h3
  rw [List.append_nil]
  exact q x dx h1 h2 h3
/-- behind a making -/
theorem same_make {H0 : Hp} {p : Addr} (np : H p = none) (nd : H dx = none) (k : ∀ b o, (upd (upd H dx (.own p)) p (.ins C dx [])) b = some o → b ≠ p → H0 b = some o) : Same H H0 := fun b o e =>
  k b o (by rw [upd_ne (ne_of_none e np), upd_ne (ne_of_none e nd)]; exact e) (ne_of_none e np)
end
end Bs

namespace Bs
open PySem L2
/-! ### what raises, by name -/
def tRz (E : XK) (C : Addr) : TS := fun _ _ H => E (.ref C) none H
def tTryAs (K : PySem.W.Frag) (C : Addr) (i : Nat) (tb : WX → TS) (ts : Addr → Value → Option Addr → TS) : TS :=
  fun D σ H => tb (wAs K (.ref C) i ts (fun _ _ _ _ => False) D) D σ H
/-- one of several defs is called: the promise goes with the address -/
def tCallX (S : Addr → Sp → Prop) (E : L2.St → XK) (tc : TE) (t : TA) : TE :=
  fun σ H Q => tc σ H fun x H1 => ∃ f sp, x = .ref f ∧ S f sp ∧ t σ H1 fun vs H2 => sp vs H2 Q (E σ)
theorem pe_callX {X : Cx} {k : Nat} {S : Addr → Sp → Prop} {E : L2.St → XK} {a b e : Expr} {es : List Expr} {q pos : Pos} {tc : TE} {t : TA}
    (hS : ∀ f sp, S f sp → ∃ (fd : FuncData) (ps : List Str), FnOk X.prog X.w X.K X.mg X.base (L2.CX X.prog X.w) k f fd ps sp ∧ PySem.W.keepIn X.K (.ref f) = true ∧ Binds X.K fd ps [])
    (hr : Room k X.A) (hx : ∀ σ, PassesAt (L2.CX X.prog X.w) X σ (E σ)) (hc : PE X (.Subscript a b q) tc) (ha : PA X (e :: es) t)
    (he : starEach (e :: es) X.env = (false, eval e X.env) :: starEach es X.env := by rfl) (hpl : (backTo pos (starEach es X.env)).any (·.1) = false := by rfl) :
    PE X (.Call (.Subscript a b q) (e :: es) [] pos) (tCallX S E tc t) := by
  refine ⟨fun pins s σ H Q I h => ?_⟩
  have arm : eval (.Call (.Subscript a b q) (e :: es) [] pos) X.env = (eval (.Subscript a b q) X.env >>= fun f => callWith pos f [] (backTo pos (starEach (e :: es) X.env)) (backToKw pos (keywordEach [] X.env))) := rfl
  rw [arm]
  refine wpAny_bind (thn (hc.run pins s σ H _ I h) fun u s1 z => ?_)
  obtain ⟨x, H1, I1, r1, f, sp, rfl, hs, ht⟩ := z
  cases r1
  obtain ⟨fd, ps, F, hk, hb⟩ := hS f sp hs
  refine PySem.W.callWith_K (h₀ := X.base) I1.ok.mod.kin hk (thn (ha.run pos pins s1 σ H1 _ I1 ht) fun us s2 y => ?_) he hpl
  obtain ⟨vs, H2, I2, r, w⟩ := y
  exact ⟨I2.kIn, run_fnS F hr hb (hx σ) I2 r w⟩
/-- isinstance(e, c) where e is of one of several own classes -/
def rIsEs (K : PySem.W.Frag) (Ds : List Addr) (a : Addr) (cls : Value) (d : Option Addr) : List V → Hp → VK → Prop :=
  fun xs H Q => ∃ D ∈ Ds, cls = .ref D ∧ d = none ∧ rIsE K D a xs H Q
theorem call_isEs {X : Cx} {a : Addr} {Ds : List Addr} {oe : Obj} {cls : Value} {d : Option Addr} {pn : List (Addr × Obj)} (C : ∀ D ∈ Ds, ExcC X.K D) (hz : Zc cls d oe) (hf : ∃ vs, oe.data = .fields vs) :
    CallR (X.suite a ((a, oe) :: pn)) (.builtin "isinstance") (rIsEs X.K Ds a cls d) := by
  intro pins s σ H xs us Q I r h
  obtain ⟨D, hD, rfl, rfl, q⟩ := h
  exact call_isE (C D hD) hz hf pins s σ H xs us Q I r q
section
variable {K : PySem.W.Frag} {σ σ' : L2.St} {H H' : Hp} {Q : VK} {ta tb te : TE} {t : TA} {D : Ends} {v x y : V} {a b p : Addr} {ns ms : List Int} {xs ys vs : List V} {c d : Bool}
def kCallS (sp : Sp) (E : XK) (Q : VK) : List V → Hp → Prop := fun vs H => sp vs H Q E
theorem wp_callS {sp : Sp} {E : L2.St → XK} (q : t σ H (kCallS sp (E σ) Q)) : tCallS sp E t σ H Q := q
theorem wp_kCallS {sp : Sp} {E : XK} (q : sp vs H Q E) : kCallS sp E Q vs H := q
def kCallX (S : Addr → Sp → Prop) (E : XK) (t : TA) (σ : L2.St) (Q : VK) : VK := fun x H1 => ∃ f sp, x = .ref f ∧ S f sp ∧ t σ H1 (kCallS sp E Q)
theorem wp_callX {S : Addr → Sp → Prop} {E : L2.St → XK} (q : ta σ H (kCallX S (E σ) t σ Q)) : tCallX S E ta t σ H Q := q
theorem wp_kCallX {S : Addr → Sp → Prop} {E : XK} {f : Addr} (sp : Sp) (h : S f sp) (q : t σ H (kCallS sp E Q)) : kCallX S E t σ Q (.ref f) H := ⟨f, sp, rfl, h, q⟩
theorem wp_rz {E : XK} {C : Addr} (q : E (.ref C) none H) : tRz E C D σ H := q
/-! ### isinstance of other kinds -/
theorem isiF {n : String} {z : V} {T : String} (h : TyOf K H z (.type T)) (k : PySem.W.kitOne K (.type T) (.type n) = some c) (q : Q (.bl c) H) : rIsi K [z, .ty n] H Q := ⟨_, _, _, _, c, rfl, .ty _, .base h, k, q⟩
end
def badsOf (cs : Cs) : List Addr := [cs.BadRow, cs.BadLeast, cs.BadTotal, cs.BadMany]
/-- no number -/
inductive NotNum (H : Hp) : V → Prop where
  | non : NotNum H .non
  | bl (b : Bool) : NotNum H (.bl b)
  | str (s : Str) : NotNum H (.str s)
  | lst {a : Addr} {xs : List V} (h : H a = some (.lst xs)) : NotNum H (.ref a)
  | tup {a : Addr} {xs : List V} (h : H a = some (.tup xs)) : NotNum H (.ref a)
  | dk {a : Addr} {kvs : List (Key × V)} (h : H a = some (.dK kvs)) : NotNum H (.ref a)
/-- an own class in isinstance, the built-in base -/
theorem kitType {K : PySem.W.Frag} {C : Addr} {n : String} (hn : PySem.W.kitMeta n = true) (h : PySem.W.subIn K (.ref C) (.type n) = some true) : PySem.W.kitOne K (.ref C) (.type n) = some true := by
  unfold PySem.W.kitOne
  by_cases e : (Value.ref C == Value.type n) = true
  · rw [if_pos e]
  · rw [if_neg e]
    show (if PySem.W.kitMeta n = true then PySem.W.subIn K (.ref C) (.type n) else none) = some true
    rw [if_pos hn]
    exact h
theorem NotNum.same {H H' : Hp} {v : V} (h : NotNum H v) (s : Same H H') : NotNum H' v := by
  cases h with
  | non => exact .non
  | bl b => exact .bl b
  | str x => exact .str x
  | lst h => exact .lst (s _ _ h)
  | tup h => exact .tup (s _ _ h)
  | dk h => exact .dk (s _ _ h)
/-- what the except suite asks of the classes -/
structure Errs (K : PySem.W.Frag) (cs : Cs) : Prop where
  m_BadRow : PySem.W.exmOne K (.ref cs.BadRow) (.ref cs.StretchError) = some true
  m_BadLeast : PySem.W.exmOne K (.ref cs.BadLeast) (.ref cs.StretchError) = some true
  m_BadTotal : PySem.W.exmOne K (.ref cs.BadTotal) (.ref cs.StretchError) = some true
  m_BadMany : PySem.W.exmOne K (.ref cs.BadMany) (.ref cs.StretchError) = some true
  v_BadRow : PySem.W.kitOne K (.ref cs.BadRow) (.type "ValueError") = some true
  v_BadLeast : PySem.W.kitOne K (.ref cs.BadLeast) (.type "ValueError") = some true
  v_BadTotal : PySem.W.kitOne K (.ref cs.BadTotal) (.type "ValueError") = some true
  v_BadMany : PySem.W.kitOne K (.ref cs.BadMany) (.type "ValueError") = some true
  k_BadRow_BadRow : PySem.W.kitOne K (.ref cs.BadRow) (.ref cs.BadRow) = some true
  k_BadRow_BadLeast : PySem.W.kitOne K (.ref cs.BadRow) (.ref cs.BadLeast) = some false
  k_BadRow_BadTotal : PySem.W.kitOne K (.ref cs.BadRow) (.ref cs.BadTotal) = some false
  k_BadRow_BadMany : PySem.W.kitOne K (.ref cs.BadRow) (.ref cs.BadMany) = some false
  k_BadLeast_BadRow : PySem.W.kitOne K (.ref cs.BadLeast) (.ref cs.BadRow) = some false
  k_BadLeast_BadLeast : PySem.W.kitOne K (.ref cs.BadLeast) (.ref cs.BadLeast) = some true
  k_BadLeast_BadTotal : PySem.W.kitOne K (.ref cs.BadLeast) (.ref cs.BadTotal) = some false
  k_BadLeast_BadMany : PySem.W.kitOne K (.ref cs.BadLeast) (.ref cs.BadMany) = some false
  k_BadTotal_BadRow : PySem.W.kitOne K (.ref cs.BadTotal) (.ref cs.BadRow) = some false
  k_BadTotal_BadLeast : PySem.W.kitOne K (.ref cs.BadTotal) (.ref cs.BadLeast) = some false
  k_BadTotal_BadTotal : PySem.W.kitOne K (.ref cs.BadTotal) (.ref cs.BadTotal) = some true
  k_BadTotal_BadMany : PySem.W.kitOne K (.ref cs.BadTotal) (.ref cs.BadMany) = some false
  k_BadMany_BadRow : PySem.W.kitOne K (.ref cs.BadMany) (.ref cs.BadRow) = some false
  k_BadMany_BadLeast : PySem.W.kitOne K (.ref cs.BadMany) (.ref cs.BadLeast) = some false
  k_BadMany_BadTotal : PySem.W.kitOne K (.ref cs.BadMany) (.ref cs.BadTotal) = some false
  k_BadMany_BadMany : PySem.W.kitOne K (.ref cs.BadMany) (.ref cs.BadMany) = some true
/-! ### rows of any things -/
def okV : V → Bool
  | .int i => decide (-1000000 ≤ i) && decide (i ≤ 1000000)
  | _ => false
/-- over a list of anything, each item's value by f -/
theorem lcV {K : PySem.W.Frag} {σ : L2.St} {H : Hp} {Q : VK} {te : TE} {a : Addr} {xs : List V} {k : Nat} (f : V → V) (h : SqL K H a xs) (hn : xs.length ≤ 100000) (hw : ∀ x : V, wipe ((wipe σ [k]).set k (some x)) [k] = wipe σ [k])
    (he : ∀ x H', x ∈ xs → Same H H' → ∀ Q' : VK, (∀ H'', Same H' H'' → Q' (f x) H'') → te ((wipe σ [k]).set k (some x)) H' Q')
    (q : ∀ p H', H p = none → Same H H' → H' p = some (.lst (xs.map f)) → Q (.ref p) H') : kLc (gName k) tYes te [k] σ Q (Itl K a) H := by
  have hm : ∀ i, i < xs.length → xs.getD i .non ∈ xs := fun i hi => by
    rw [List.getD_eq_getElem?_getD, List.getElem?_eq_getElem hi]
    exact List.getElem_mem hi
  have w : Walk (Itl K a) xs.length (fun H => SqL K H a xs) (fun i H x H' => H' = H ∧ x = xs.getD i .non) := by
    refine (walk_list (K := K) (a := a) (xs := xs)).mono (fun _ h => h) fun i H x H' hi _ y => ⟨y.1, ?_⟩
    rw [List.getD_eq_getElem?_getD, y.2]
    rfl
  refine lcW (σi := fun i => (wipe σ [k]).set k (some (xs.getD i .non))) w (fun _ => true) (fun i => f (xs.getD i .non)) hn (fun H' s => s.seq h) (fun i H' k' z => z) (fun i => hw _) (fun i H' _ _ Q' z => z H' (Same.refl H')) (fun i H' hi _ s => he _ H' (hm i hi) s) fun p H' np s hp => ?_
  refine q p H' np s ?_
  rw [hp, List.filter_eq_self.mpr (fun _ _ => rfl)]
  congr 2
  apply List.ext_getElem
  · simp
  · intro i h1 h2
    simp at h1
    simp [h1]
end Bs

namespace Bs
open PySem L2
/-! ### stretches and lows: the mathematics -/
def IsThere (f m l : Int) : Prop := 0 ≤ f ∧ 1 ≤ m ∧ f + m ≤ l
instance (f m l : Int) : Decidable (IsThere f m l) := by unfold IsThere; infer_instance
/-- lows against sums -/
def Below (sums : List Int) (least : Int) (lows : List Int) (told : Int) : Prop :=
  (lows.length : Int) = sums.length - least ∧ ∀ i : Nat, i < lows.length → nth lows i ≤ nth sums i ∧ (0 < i → nth lows i ≤ nth lows ((i : Int) - 1)) ∧ nth sums ((i : Int) + least) - nth lows i ≤ told
instance (sums : List Int) (least : Int) (lows : List Int) (told : Int) : Decidable (Below sums least lows told) := by unfold Below; infer_instance
/-- the sum of a stretch, as the slice has it -/
def segS (ns : List Int) (f m : Int) : Int := (cut ns (some f) (some (f + m))).sum
theorem cut_some (ns : List Int) {f e : Int} (h0 : 0 ≤ f) (h1 : f ≤ e) (h2 : e ≤ ns.length) : cut ns (some f) (some e) = (ns.drop f.toNat).take (e - f).toNat := by
  unfold cut
  have e1 : HT.sIx ns.length 0 (some f) = f.toNat := by
    show (if f < 0 then (f + (ns.length : Int)).toNat else min f.toNat ns.length) = f.toNat
    rw [if_neg (by omega)]
    omega
  have e2 : HT.sIx ns.length ns.length (some e) = e.toNat := by
    show (if e < 0 then (e + (ns.length : Int)).toNat else min e.toNat ns.length) = e.toNat
    rw [if_neg (by omega)]
    omega
  rw [e1, e2, show e.toNat - f.toNat = (e - f).toNat by omega]
theorem pre_split (ns : List Int) (f m : Nat) : pre ns (f + m) = pre ns f + ((ns.drop f).take m).sum := by
  unfold pre
  rw [List.take_add, List.sum_append]
theorem segS_pre (ns : List Int) {f m : Int} (h0 : 0 ≤ f) (h1 : 0 ≤ m) (h2 : f + m ≤ ns.length) : segS ns f m = nth (psums ns) (f + m) - nth (psums ns) f := by
  unfold segS
  rw [cut_some ns h0 (by omega) h2]
  have e := pre_split ns f.toNat m.toNat
  have ef : nth (psums ns) f = pre ns f.toNat := by
    have := nth_psums ns (j := f.toNat) (by omega)
    rw [← this, Int.toNat_of_nonneg h0]
  have eg : nth (psums ns) (f + m) = pre ns (f.toNat + m.toNat) := by
    have := nth_psums ns (j := f.toNat + m.toNat) (by omega)
    rw [← this]
    congr 1
    omega
  rw [ef, eg, e, show (f + m - f).toNat = m.toNat by omega]
  omega
theorem sum_pre (ns : List Int) : ns.sum = pre ns ns.length := by simp [pre]
/-- what best_of tells -/
structure BestOf (ns : List Int) (least f m : Int) (lows : List Int) : Prop where
  f0 : 0 ≤ f
  m0 : least ≤ m
  fm : f + m ≤ ns.length
  lo : Below (psums ns) least lows (segS ns f m)
/-- lows bound every stretch -/
theorem Below.bound {P lows : List Int} {least told : Int} (h : Below P least lows told) (hl : 0 ≤ least) {a e : Int} (h0 : 0 ≤ a) (h1 : a + least ≤ e) (h2 : e < P.length) : nth P e - nth P a ≤ told := by
  obtain ⟨hn, h⟩ := h
  have key : ∀ (d : Nat) (j : Nat), (j : Int) + least < P.length → (j : Int) = a + d → nth lows j ≤ nth P a := by
    intro d
    induction d with
    | zero =>
      intro j hj e
      have e' : (j : Int) = a := by omega
      have := (h j (by omega)).1
      rw [e'] at this
      rw [e']
      exact this
    | succ d ih =>
      intro j hj e
      have h1 := (h j (by omega)).2.1 (by omega)
      have e2 : ((j - 1 : Nat) : Int) = (j : Int) - 1 := by omega
      have h2 := ih (j - 1) (by omega) (by omega)
      rw [e2] at h2
      omega
  have hj : (((e - least).toNat : Nat) : Int) = e - least := by omega
  have q := key (e - least - a).toNat (e - least).toNat (by omega) (by omega)
  have r := (h (e - least).toNat (by omega)).2.2
  rw [hj] at q r
  rw [show e - least + least = e by omega] at r
  omega
theorem nth_append_left {xs ys : List Int} {i : Int} (h0 : 0 ≤ i) (h : i < xs.length) : nth (xs ++ ys) i = nth xs i := by
  unfold nth
  rw [List.getD_eq_getElem?_getD, List.getD_eq_getElem?_getD, List.getElem?_append_left (by omega)]
theorem nth_append_last {xs : List Int} {y : Int} : nth (xs ++ [y]) (xs.length : Int) = y := by
  simp [nth]
/-- one turn of best_of: i turns are done -/
structure BestTo (P : List Int) (least : Int) (i : Nat) (lows : List Int) (low f m : Int) : Prop where
  ln : lows.length = i
  l0 : 0 ≤ low
  li : low ≤ i ∧ (low < i ∨ (i = 0 ∧ low = 0))
  mn : ∀ k : Nat, k < i → nth P low ≤ nth P k
  la : 0 < i → nth lows ((i : Int) - 1) = nth P low
  f0 : 0 ≤ f
  m0 : least ≤ m
  fm : f + m < P.length
  lo : ∀ j : Nat, j < i → nth lows j ≤ nth P j ∧ (0 < j → nth lows j ≤ nth lows ((j : Int) - 1)) ∧ nth P ((j : Int) + least) - nth lows j ≤ nth P (f + m) - nth P f
theorem bestTo_zero {P : List Int} {least : Int} (h1 : 0 ≤ least) (h2 : least < P.length) : BestTo P least 0 [] 0 0 least :=
  ⟨rfl, Int.le_refl _, by omega, fun k hk => by omega, fun h => by omega, Int.le_refl _, Int.le_refl _, by omega, fun j hj => by omega⟩
theorem bestTo_step {P : List Int} {least : Int} {i : Nat} {lows : List Int} {low f m low' f' m' : Int} (h : BestTo P least i lows low f m) (hl : 0 ≤ least) (hi : (i : Int) + least < P.length)
    (e1 : low' = if nth P i < nth P low then (i : Int) else low)
    (e2 : f' = if nth P ((i : Int) + least) - nth P low' > nth P (f + m) - nth P f then low' else f)
    (e3 : m' = if nth P ((i : Int) + least) - nth P low' > nth P (f + m) - nth P f then (i : Int) + least - low' else m) :
    BestTo P least (i + 1) (lows ++ [nth P low']) low' f' m' := by
  obtain ⟨ln, l0, li, mn, la, f0, m0, fm, lo⟩ := h
  have hlow : 0 ≤ low' ∧ low' ≤ i ∧ nth P low' ≤ nth P i ∧ nth P low' ≤ nth P low := by
    rw [e1]
    split
    · exact ⟨by omega, by omega, Int.le_refl _, by omega⟩
    · rename_i hh
      refine ⟨l0, li.1, by omega, Int.le_refl _⟩
  obtain ⟨a1, a2, a3, a4⟩ := hlow
  have hbest : nth P (f + m) - nth P f ≤ nth P (f' + m') - nth P f' ∧ nth P ((i : Int) + least) - nth P low' ≤ nth P (f' + m') - nth P f' ∧ 0 ≤ f' ∧ least ≤ m' ∧ f' + m' < P.length := by
    rw [e2, e3]
    by_cases c : nth P ((i : Int) + least) - nth P low' > nth P (f + m) - nth P f
    · rw [if_pos c, if_pos c, show low' + ((i : Int) + least - low') = (i : Int) + least by omega]
      refine ⟨by omega, by omega, a1, by omega, hi⟩
    · rw [if_neg c, if_neg c]
      exact ⟨Int.le_refl _, by omega, f0, m0, fm⟩
  obtain ⟨b1, b2, b3, b4, b5⟩ := hbest
  have hlast : nth (lows ++ [nth P low']) (i : Int) = nth P low' := by
    rw [← ln]
    exact nth_append_last
  refine ⟨by simp [ln], a1, ⟨by omega, .inl (by omega)⟩, fun k hk => ?_, fun _ => ?_, b3, b4, b5, fun j hj => ?_⟩
  · by_cases e : k = i
    · subst e; exact a3
    · have := mn k (by omega)
      omega
  · rw [show ((i + 1 : Nat) : Int) - 1 = (i : Int) by omega]
    exact hlast
  · by_cases e : j = i
    · subst e
      rw [hlast]
      refine ⟨a3, fun h0 => ?_, b2⟩
      rw [nth_append_left (by omega) (by omega), la h0]
      exact a4
    · have hj' : j < i := by omega
      obtain ⟨c1, c2, c3⟩ := lo j hj'
      rw [nth_append_left (by omega) (by omega)]
      refine ⟨c1, fun h0 => ?_, by omega⟩
      rw [nth_append_left (by omega) (by omega)]
      exact c2 h0
theorem bestTo_end {ns lows : List Int} {least low f m : Int} {i : Nat} (h : BestTo (psums ns) least i lows low f m) (hl : 0 ≤ least) (hi : (i : Int) = ns.length - least + 1) : BestOf ns least f m lows := by
  obtain ⟨ln, l0, li, mn, la, f0, m0, fm, lo⟩ := h
  have hz := psums_length ns
  refine ⟨f0, m0, by omega, by omega, fun j hj => ?_⟩
  rw [segS_pre ns f0 (by omega) (by omega)]
  exact lo j (by omega)
/-- what an answer with lows shows -/
def BestShow (ns : List Int) (least f m : Int) (lows : List Int) : Prop := IsThere f m ns.length ∧ least ≤ m ∧ Below (psums ns) least lows (segS ns f m)
instance (ns : List Int) (least f m : Int) (lows : List Int) : Decidable (BestShow ns least f m lows) := by unfold BestShow; infer_instance
theorem BestOf.shows {ns lows : List Int} {least f m : Int} (h : BestOf ns least f m lows) (hl : 1 ≤ least) : BestShow ns least f m lows := ⟨⟨h.f0, by have := h.m0; omega, h.fm⟩, h.m0, h.lo⟩
theorem not_below_snoc {P lows : List Int} {least told : Int} {y : Int} (h : Below P least lows told) (t2 : Int) : ¬ Below P least (lows ++ [y]) t2 := by
  intro q
  have h1 := h.1
  have h2 := q.1
  rw [List.length_append, List.length_singleton] at h2
  omega
end Bs

namespace Bs
open PySem L2
/-! ### the row bent by a stretch -/
def bentOf (ns : List Int) (m t : Int) : List Int := ns.map fun x => x * m - t
theorem bentOf_length (ns : List Int) (m t : Int) : (bentOf ns m t).length = ns.length := by simp [bentOf]
theorem pre_bent (ns : List Int) (m t : Int) : ∀ i : Nat, i ≤ ns.length → pre (bentOf ns m t) i = pre ns i * m - t * i := by
  intro i
  induction i with
  | zero => intro _; simp [pre_zero]
  | succ i ih =>
    intro h
    rw [pre_succ (by rw [bentOf_length]; omega), ih (by omega), pre_succ (by omega)]
    have e : nth (bentOf ns m t) i = nth ns i * m - t := by
      have h' : i < ns.length := by omega
      simp [nth, bentOf, h']
    rw [e, Int.add_mul]
    have : t * ((i + 1 : Nat) : Int) = t * i + t := by
      rw [Int.natCast_add, Int.mul_add]
      simp
    omega
theorem nth_psums_bent (ns : List Int) (m t : Int) {i : Int} (h0 : 0 ≤ i) (h1 : i ≤ ns.length) : nth (psums (bentOf ns m t)) i = nth (psums ns) i * m - t * i := by
  have e1 := nth_psums (bentOf ns m t) (j := i.toNat) (by rw [bentOf_length]; omega)
  have e2 := nth_psums ns (j := i.toNat) (by omega)
  rw [Int.toNat_of_nonneg h0] at e1 e2
  rw [e1, e2, pre_bent ns m t i.toNat (by omega), Int.toNat_of_nonneg h0]
/-- what steepest tells -/
structure SteepOf (ns : List Int) (least f m : Int) (lows : List Int) : Prop where
  f0 : 0 ≤ f
  m0 : least ≤ m
  fm : f + m ≤ ns.length
  lo : Below (psums (bentOf ns m (segS ns f m))) least lows 0
def SteepShow (ns : List Int) (least f m : Int) (lows : List Int) : Prop := IsThere f m ns.length ∧ least ≤ m ∧ Below (psums (bentOf ns m (segS ns f m))) least lows 0
instance (ns : List Int) (least f m : Int) (lows : List Int) : Decidable (SteepShow ns least f m lows) := by unfold SteepShow; infer_instance
theorem SteepOf.shows {ns lows : List Int} {least f m : Int} (h : SteepOf ns least f m lows) (hl : 1 ≤ least) : SteepShow ns least f m lows := ⟨⟨h.f0, by have := h.m0; omega, h.fm⟩, h.m0, h.lo⟩
/-- no stretch has a greater mean -/
theorem SteepOf.bound {ns lows : List Int} {least f m : Int} (h : SteepOf ns least f m lows) (hl : 1 ≤ least) {a e : Int} (h0 : 0 ≤ a) (h1 : a + least ≤ e) (h2 : e ≤ ns.length) :
    (nth (psums ns) e - nth (psums ns) a) * m ≤ segS ns f m * (e - a) := by
  have q := h.lo.bound (by omega) h0 h1 (by rw [psums_length, bentOf_length]; omega)
  rw [nth_psums_bent ns _ _ (by omega) h2, nth_psums_bent ns _ _ h0 (by omega)] at q
  rw [Int.sub_mul, Int.mul_sub]
  omega
theorem Below.weaken {P lows : List Int} {least t t' : Int} (h : Below P least lows t) (ht : t ≤ t') : Below P least lows t' := ⟨h.1, fun i hi => by
  obtain ⟨a, b, c⟩ := h.2 i hi
  exact ⟨a, b, by omega⟩⟩
/-- of lows that bound the bent row by a sum that is not above 0 -/
theorem steepOf_done {ns lows : List Int} {least f m o c : Int} (h0 : 0 ≤ f) (h1 : least ≤ m) (h2 : f + m ≤ ns.length) (B : BestOf (bentOf ns m (segS ns f m)) least o c lows) (hs : segS (bentOf ns m (segS ns f m)) o c ≤ 0) : SteepOf ns least f m lows :=
  ⟨h0, h1, h2, B.lo.weaken hs⟩
/-! ### the mean rises: a number that falls -/
def better (ns : List Int) (q p : Int × Int) : Bool := decide (segS ns q.1 q.2 * p.2 < segS ns p.1 p.2 * q.2)
def grid (n : Nat) : List (Int × Int) := (List.range (n + 1)).flatMap fun i : Nat => (List.range (n + 1)).map fun j : Nat => ((i : Int), ((j + 1 : Nat) : Int))
def above (ns : List Int) (q : Int × Int) : Nat := (grid ns.length).countP (better ns q)
theorem mem_grid {n : Nat} {f m : Int} (h0 : 0 ≤ f) (h1 : 1 ≤ m) (h2 : f + m ≤ n) : (f, m) ∈ grid n := by
  unfold grid
  refine List.mem_flatMap.mpr ⟨f.toNat, List.mem_range.mpr (by omega), List.mem_map.mpr ⟨(m - 1).toNat, List.mem_range.mpr (by omega), ?_⟩⟩
  have e1 : (f.toNat : Int) = f := by omega
  have e2 : (((m - 1).toNat + 1 : Nat) : Int) = m := by omega
  rw [e1, e2]
theorem grid_pos {n : Nat} {p : Int × Int} (h : p ∈ grid n) : 1 ≤ p.2 := by
  unfold grid at h
  obtain ⟨i, _, h⟩ := List.mem_flatMap.mp h
  obtain ⟨j, _, rfl⟩ := List.mem_map.mp h
  show (1 : Int) ≤ ((j + 1 : Nat) : Int)
  omega
theorem countP_lt {α : Type} {P Q : α → Bool} : ∀ {l : List α}, (∀ x ∈ l, P x = true → Q x = true) → (∃ x ∈ l, Q x = true ∧ P x = false) → l.countP P < l.countP Q
  | [], _, h => by obtain ⟨_, h, _⟩ := h; cases h
  | a :: r, h1, h2 => by
    have hr : r.countP P ≤ r.countP Q := List.countP_mono_left fun x hx => h1 x (List.mem_cons_of_mem _ hx)
    rw [List.countP_cons, List.countP_cons]
    obtain ⟨x, hx, hq, hp⟩ := h2
    rcases List.mem_cons.mp hx with rfl | hx
    · rw [if_pos hq, if_neg (by rw [hp]; decide)]
      omega
    · have ih := countP_lt (l := r) (fun x hx => h1 x (List.mem_cons_of_mem _ hx)) ⟨x, hx, hq, hp⟩
      have ha := h1 a List.mem_cons_self
      cases e : P a with
      | true => rw [if_pos rfl, if_pos (ha e)]; omega
      | false =>
        rw [if_neg (by decide)]
        omega
theorem mean_trans {sp sq sr mp mq mr : Int} (hq : 1 ≤ mq) (hp : 1 ≤ mp) (hr : 1 ≤ mr) (h1 : sq * mp < sp * mq) (h2 : sp * mr < sr * mp) : sq * mr < sr * mq := by
  have a1 : sq * mp * mr < sp * mq * mr := Int.mul_lt_mul_of_pos_right h1 (by omega)
  have a2 : sp * mr * mq < sr * mp * mq := Int.mul_lt_mul_of_pos_right h2 (by omega)
  have e1 : sp * mq * mr = sp * mr * mq := by rw [Int.mul_assoc, Int.mul_comm mq mr, Int.mul_assoc]
  have a3 : sq * mp * mr < sr * mp * mq := by omega
  have e2 : sq * mp * mr = mp * (sq * mr) := by rw [Int.mul_comm sq mp, Int.mul_assoc]
  have e3 : sr * mp * mq = mp * (sr * mq) := by rw [Int.mul_comm sr mp, Int.mul_assoc]
  rw [e2, e3] at a3
  exact Int.lt_of_mul_lt_mul_left a3 (by omega)
theorem above_falls {ns : List Int} {f m o c : Int} (hm : 1 ≤ m) (h0 : 0 ≤ o) (h1 : 1 ≤ c) (h2 : o + c ≤ ns.length) (hb : segS ns f m * c < segS ns o c * m) : above ns (o, c) < above ns (f, m) := by
  refine countP_lt (fun p hp h => ?_) ⟨(o, c), mem_grid h0 h1 h2, decide_eq_true hb, decide_eq_false ?_⟩
  · have hp2 := grid_pos hp
    exact decide_eq_true (mean_trans hm h1 hp2 hb (of_decide_eq_true h))
  · show ¬ (segS ns o c * c < segS ns o c * c)
    omega
/-- the bent row's stretch -/
theorem segS_bent (ns : List Int) (m t : Int) {o c : Int} (h0 : 0 ≤ o) (h1 : 0 ≤ c) (h2 : o + c ≤ ns.length) : segS (bentOf ns m t) o c = segS ns o c * m - t * c := by
  rw [segS_pre _ h0 h1 (by rw [bentOf_length]; exact h2), segS_pre _ h0 h1 h2, nth_psums_bent ns _ _ (by omega) h2, nth_psums_bent ns _ _ h0 (by omega), Int.sub_mul]
  have : t * (o + c) = t * o + t * c := Int.mul_add _ _ _
  omega
theorem sum_le {M : Int} : ∀ {l : List Int}, (∀ x ∈ l, x ≤ M) → l.sum ≤ l.length * M
  | [], _ => by simp
  | a :: r, h => by
    have h1 := h a List.mem_cons_self
    have h2 := sum_le (l := r) fun x hx => h x (List.mem_cons_of_mem _ hx)
    rw [List.sum_cons, List.length_cons, Int.natCast_add, Int.add_mul]
    simp
    omega
theorem segS_le {ns : List Int} {f m M : Int} (h0 : 0 ≤ f) (h1 : 0 ≤ m) (h2 : f + m ≤ ns.length) (hM : ∀ x ∈ ns, x ≤ M) : segS ns f m ≤ m * M := by
  unfold segS
  rw [cut_some ns h0 (by omega) h2]
  have q := sum_le (l := (ns.drop f.toNat).take (f + m - f).toNat) fun x hx => hM x (List.mem_of_mem_drop (List.mem_of_mem_take hx))
  rw [List.length_take, List.length_drop] at q
  rw [show (((min (f + m - f).toNat (ns.length - f.toNat) : Nat) : Int)) = m by omega] at q
  exact q
/-- of least count 1: the greatest number -/
theorem steep_one {ns lows : List Int} {f m M : Int} (h : SteepOf ns 1 f m lows) (hM : M ∈ ns) (hle : ∀ x ∈ ns, x ≤ M) : segS ns f m = m * M := by
  have q := segS_le h.f0 (by have := h.m0; omega) h.fm hle
  obtain ⟨i, hi, e⟩ := List.getElem_of_mem hM
  have b := h.bound (by omega) (a := i) (e := (i : Int) + 1) (by omega) (by omega) (by omega)
  have e1 := nth_psums ns (j := i) (by omega)
  have e2 := nth_psums ns (j := i + 1) (by omega)
  rw [pre_succ hi] at e2
  have e3 : nth ns i = M := by simp [nth, hi, e]
  rw [e3] at e2
  rw [show ((i : Int) + 1) = ((i + 1 : Nat) : Int) by omega, e2, e1, show ((i + 1 : Nat) : Int) - (i : Int) = 1 by omega, Int.mul_one, show pre ns i + M - pre ns i = M by omega, Int.mul_comm] at b
  omega
end Bs

namespace Bs
open PySem L2
/-! ### rings -/
theorem nth_eq {ns : List Int} {i : Nat} (h : i < ns.length) : nth ns i = ns[i] := by simp [nth, h]
theorem pre_append_left (xs ys : List Int) {i : Nat} (h : i ≤ xs.length) : pre (xs ++ ys) i = pre xs i := by
  unfold pre
  rw [List.take_append_of_le_length h]
theorem pre_append_right (xs ys : List Int) (i : Nat) : pre (xs ++ ys) (xs.length + i) = xs.sum + pre ys i := by
  unfold pre
  rw [List.take_length_add_append, List.sum_append]
/-- the sum of a stretch, the row twice -/
def tellR (ns : List Int) (f m : Int) : Int := segS (ns ++ ns) f m
theorem nth_psums2 (ns : List Int) {i : Int} (h0 : 0 ≤ i) (h1 : i ≤ ns.length) : nth (psums (ns ++ ns)) i = nth (psums ns) i := by
  have e1 := nth_psums (ns ++ ns) (j := i.toNat) (by rw [List.length_append]; omega)
  have e2 := nth_psums ns (j := i.toNat) (by omega)
  rw [Int.toNat_of_nonneg h0] at e1 e2
  rw [e1, e2, pre_append_left _ _ (by omega)]
theorem nth_psums3 (ns : List Int) {i : Int} (h0 : 0 ≤ i) (h1 : i ≤ ns.length) : nth (psums (ns ++ ns)) ((ns.length : Int) + i) = ns.sum + nth (psums ns) i := by
  have e1 := nth_psums (ns ++ ns) (j := ns.length + i.toNat) (by rw [List.length_append]; omega)
  have e2 := nth_psums ns (j := i.toNat) (by omega)
  rw [Int.toNat_of_nonneg h0] at e2
  rw [show ((ns.length + i.toNat : Nat) : Int) = (ns.length : Int) + i by omega] at e1
  rw [e1, e2, pre_append_right]
theorem nth_psums_len (ns : List Int) : nth (psums ns) ns.length = ns.sum := by
  rw [nth_psums ns (Nat.le_refl _), sum_pre]
theorem nth_psums_0 (ns : List Int) : nth (psums ns) 0 = 0 := by
  have := nth_psums ns (j := 0) (by omega)
  rw [pre_zero] at this
  exact this
theorem tellR_flat (ns : List Int) {f m : Int} (h0 : 0 ≤ f) (h1 : 0 ≤ m) (h2 : f + m ≤ ns.length) : tellR ns f m = segS ns f m := by
  unfold tellR
  rw [segS_pre _ h0 h1 (by rw [List.length_append]; omega), segS_pre _ h0 h1 h2, nth_psums2 ns (by omega) h2, nth_psums2 ns h0 (by omega)]
theorem tellR_wrap (ns : List Int) {f m : Int} (h0 : 0 ≤ f) (h1 : f ≤ ns.length) (h2 : (ns.length : Int) ≤ f + m) (h3 : m ≤ ns.length) : tellR ns f m = ns.sum + nth (psums ns) (f + m - ns.length) - nth (psums ns) f := by
  unfold tellR
  rw [segS_pre _ h0 (by omega) (by rw [List.length_append]; omega), nth_psums2 ns h0 h1]
  have e := nth_psums3 ns (i := f + m - ns.length) (by omega) (by omega)
  rw [show (ns.length : Int) + (f + m - ns.length) = f + m by omega] at e
  rw [e]
/-- the row within, each with its sign turned -/
def within (ns : List Int) : List Int := (cut ns (some 1) (some (-1))).map fun x => -x
theorem cut_within {ns : List Int} (h : 1 ≤ ns.length) : cut ns (some 1) (some (-1)) = (ns.drop 1).take (ns.length - 2) := by
  unfold cut
  have e1 : HT.sIx ns.length 0 (some 1) = 1 := by
    show (if (1 : Int) < 0 then ((1 : Int) + (ns.length : Int)).toNat else min (1 : Int).toNat ns.length) = 1
    rw [if_neg (by omega)]
    show min 1 ns.length = 1
    omega
  have e2 : HT.sIx ns.length ns.length (some (-1)) = ns.length - 1 := by
    show (if (-1 : Int) < 0 then ((-1 : Int) + (ns.length : Int)).toNat else min (-1 : Int).toNat ns.length) = ns.length - 1
    rw [if_pos (by omega)]
    omega
  rw [e1, e2]
  congr 1
theorem cut_within_len (ns : List Int) : (cut ns (some 1) (some (-1))).length ≤ ns.length := by
  unfold cut
  rw [List.length_take, List.length_drop]
  omega
theorem within_length {ns : List Int} (h : 1 ≤ ns.length) : (within ns).length = ns.length - 2 := by
  unfold within
  rw [List.length_map, cut_within h, List.length_take, List.length_drop]
  omega
theorem within_le (ns : List Int) : (within ns).length ≤ ns.length := by
  unfold within
  rw [List.length_map]
  exact cut_within_len ns
theorem pre_within {ns : List Int} (h : 1 ≤ ns.length) : ∀ i : Nat, i + 2 ≤ ns.length → pre (within ns) i = pre ns 1 - pre ns (i + 1) := by
  intro i
  induction i with
  | zero => intro _; simp [pre_zero]
  | succ i ih =>
    intro hi
    rw [pre_succ (by rw [within_length h]; omega), ih (by omega), pre_succ (i := i + 1) (by omega)]
    have e : nth (within ns) i = - nth ns ((i + 1 : Nat) : Int) := by
      rw [nth_eq (by rw [within_length h]; omega), nth_eq (by omega)]
      simp only [within, cut_within h, List.getElem_map, List.getElem_take, List.getElem_drop, Nat.add_comm 1 i]
    omega
theorem nth_psums_within {ns : List Int} {i : Int} (h0 : 0 ≤ i) (h1 : i + 2 ≤ ns.length) : nth (psums (within ns)) i = nth (psums ns) 1 - nth (psums ns) (i + 1) := by
  have h : 1 ≤ ns.length := by omega
  have e1 := nth_psums (within ns) (j := i.toNat) (by rw [within_length h]; omega)
  have e2 := nth_psums ns (j := i.toNat + 1) (by omega)
  have e3 := nth_psums ns (j := 1) (by omega)
  rw [Int.toNat_of_nonneg h0] at e1
  rw [show ((i.toNat + 1 : Nat) : Int) = i + 1 by omega] at e2
  rw [show ((1 : Nat) : Int) = 1 by omega] at e3
  rw [e1, e2, e3, pre_within h _ (by omega)]
/-- what around tells -/
structure AroundOf (ns : List Int) (f m : Int) (lows tops : List Int) : Prop where
  f0 : 0 ≤ f
  f1 : f < ns.length
  m0 : 1 ≤ m
  m1 : m ≤ ns.length
  lo : Below (psums ns) 1 lows (tellR ns f m)
  tp : 2 < ns.length → Below (psums (within ns)) 1 tops (tellR ns f m - ns.sum)
  te : ¬ 2 < ns.length → tops = []
def AroundShow (ns : List Int) (f m : Int) (lows tops : List Int) : Prop :=
  (0 ≤ f ∧ f < ns.length) ∧ (1 ≤ m ∧ m ≤ ns.length) ∧ (2 < ns.length → Below (psums (within ns)) 1 tops (tellR ns f m - ns.sum)) ∧ Below (psums ns) 1 lows (tellR ns f m) ∧ (2 < ns.length ∨ tops = [])
instance (ns : List Int) (f m : Int) (lows tops : List Int) : Decidable (AroundShow ns f m lows tops) := by unfold AroundShow; infer_instance
theorem AroundOf.shows {ns lows tops : List Int} {f m : Int} (h : AroundOf ns f m lows tops) : AroundShow ns f m lows tops :=
  ⟨⟨h.f0, h.f1⟩, ⟨h.m0, h.m1⟩, h.tp, h.lo, if q : 2 < ns.length then .inl q else .inr (h.te q)⟩
theorem AroundOf.not_more {ns lows tops : List Int} {f m : Int} {y : Int} (h : AroundOf ns f m lows tops) : ¬ AroundShow ns f m lows (tops ++ [y]) := by
  rintro ⟨_, _, q, _, r⟩
  by_cases c : 2 < ns.length
  · exact not_below_snoc (h.tp c) _ (q c)
  · rcases r with r | r
    · exact c r
    · simp at r
/-- every stretch of the ring has no more -/
theorem AroundOf.bound {ns lows tops : List Int} {f m : Int} (h : AroundOf ns f m lows tops) {a b : Int} (h0 : 0 ≤ a) (h1 : a < ns.length) (h2 : 1 ≤ b) (h3 : b ≤ ns.length) : tellR ns a b ≤ tellR ns f m := by
  have hz := psums_length ns
  by_cases c : a + b ≤ ns.length
  · rw [tellR_flat ns h0 (by omega) c, segS_pre ns h0 (by omega) c]
    exact h.lo.bound (by omega) h0 (by omega) (by omega)
  · rw [tellR_wrap ns h0 (by omega) (by omega) h3]
    by_cases e : b = ns.length
    · have q := h.lo.bound (by omega) (a := 0) (e := ns.length) (by omega) (by omega) (by omega)
      rw [nth_psums_len, nth_psums_0] at q
      rw [show a + b - (ns.length : Int) = a by omega]
      omega
    · have hw := within_length (ns := ns) (by omega)
      have q := (h.tp (by omega)).bound (by omega) (a := a + b - ns.length - 1) (e := a - 1) (by omega) (by omega) (by rw [psums_length]; omega)
      rw [nth_psums_within (by omega) (by omega), nth_psums_within (by omega) (by omega), show a - 1 + 1 = a by omega, show a + b - (ns.length : Int) - 1 + 1 = a + b - ns.length by omega] at q
      omega
/-! ### the sum place by place -/
def rsum (ns : List Int) (f : Int) : Nat → Int
  | 0 => 0
  | m + 1 => rsum ns f m + nth ns ((f + m) % ns.length)
theorem rsum_mod (ns : List Int) (f : Int) : ∀ m : Nat, rsum ns f m = rsum ns (f % ns.length) m
  | 0 => rfl
  | m + 1 => by
    rw [rsum, rsum, rsum_mod ns f m, Int.emod_add_emod]
theorem nth_double {ns : List Int} {i : Int} (h0 : 0 ≤ i) (h1 : i < 2 * ns.length) (hn : 0 < ns.length) : nth (ns ++ ns) i = nth ns (i % ns.length) := by
  by_cases c : i < ns.length
  · rw [nth_append_left h0 c, Int.emod_eq_of_lt h0 c]
  · have e : i % ns.length = i - ns.length := by
      rw [← Int.sub_emod_right, Int.emod_eq_of_lt (by omega) (by omega)]
    rw [e]
    unfold nth
    rw [List.getD_eq_getElem?_getD, List.getD_eq_getElem?_getD, List.getElem?_append_right (by omega)]
    congr 2
    omega
theorem rsum_tell (ns : List Int) {f : Int} (h0 : 0 ≤ f) (h1 : f < ns.length) : ∀ m : Nat, m ≤ ns.length → rsum ns f m = tellR ns f m
  | 0, _ => by
    unfold tellR
    rw [segS_pre _ h0 (by omega) (by rw [List.length_append]; omega)]
    simp [rsum]
  | m + 1, h => by
    rw [rsum, rsum_tell ns h0 h1 m (by omega)]
    unfold tellR
    rw [segS_pre _ h0 (by omega) (by rw [List.length_append]; omega), segS_pre _ h0 (by omega) (by rw [List.length_append]; omega)]
    have e := nth_psums (ns ++ ns) (j := (f + m).toNat) (by rw [List.length_append]; omega)
    have e' := nth_psums (ns ++ ns) (j := (f + m).toNat + 1) (by rw [List.length_append]; omega)
    rw [pre_succ (by rw [List.length_append]; omega), Int.toNat_of_nonneg (by omega), nth_double (by omega) (by omega) (by omega)] at e'
    rw [Int.toNat_of_nonneg (by omega)] at e
    rw [show (((f + m).toNat + 1 : Nat) : Int) = f + ((m + 1 : Nat) : Int) by omega] at e'
    omega
theorem AroundOf.rbound {ns lows tops : List Int} {f m : Int} (h : AroundOf ns f m lows tops) (a : Int) {b : Nat} (h2 : 1 ≤ b) (h3 : b ≤ ns.length) : rsum ns a b ≤ tellR ns f m := by
  have hn : 0 < ns.length := by omega
  rw [rsum_mod, rsum_tell ns (Int.emod_nonneg _ (by omega)) (Int.emod_lt_of_pos _ (by omega)) b h3]
  exact h.bound (Int.emod_nonneg _ (by omega)) (Int.emod_lt_of_pos _ (by omega)) (by omega) (by omega)
/-! ### turned by a place -/
def turn1 (ns : List Int) : List Int := cut ns (some 1) none ++ cut ns none (some 1)
theorem turn1_eq {ns : List Int} (h : 1 ≤ ns.length) : turn1 ns = ns.drop 1 ++ ns.take 1 := by
  unfold turn1 cut
  have e1 : HT.sIx ns.length 0 (some 1) = 1 := by
    show (if (1 : Int) < 0 then ((1 : Int) + (ns.length : Int)).toNat else min (1 : Int).toNat ns.length) = 1
    rw [if_neg (by omega)]
    show min 1 ns.length = 1
    omega
  have e2 : HT.sIx ns.length ns.length (some 1) = 1 := by
    show (if (1 : Int) < 0 then ((1 : Int) + (ns.length : Int)).toNat else min (1 : Int).toNat ns.length) = 1
    rw [if_neg (by omega)]
    show min 1 ns.length = 1
    omega
  rw [e1, e2]
  have e3 : HT.sIx ns.length ns.length none = ns.length := rfl
  have e4 : HT.sIx ns.length 0 none = 0 := rfl
  rw [e3, e4]
  rw [List.take_of_length_le (by rw [List.length_drop]; omega)]
  rfl
theorem turn1_length {ns : List Int} (h : 1 ≤ ns.length) : (turn1 ns).length = ns.length := by
  rw [turn1_eq h, List.length_append, List.length_drop, List.length_take]
  omega
theorem nth_turn1 {ns : List Int} (h : 1 ≤ ns.length) {i : Int} (h0 : 0 ≤ i) (h1 : i < ns.length) : nth (turn1 ns) i = nth ns ((i + 1) % ns.length) := by
  rw [turn1_eq h]
  by_cases c : i + 1 < ns.length
  · rw [nth_append_left h0 (by rw [List.length_drop]; omega), Int.emod_eq_of_lt (by omega) c]
    unfold nth
    rw [List.getD_eq_getElem?_getD, List.getD_eq_getElem?_getD, List.getElem?_drop]
    congr 2
    omega
  · have e : i + 1 = ns.length := by omega
    rw [e, Int.emod_self]
    unfold nth
    rw [List.getD_eq_getElem?_getD, List.getD_eq_getElem?_getD, List.getElem?_append_right (by rw [List.length_drop]; omega), List.length_drop, List.getElem?_take]
    rw [if_pos (by omega)]
    congr 2
    omega
theorem rsum_turn1 {ns : List Int} (h : 1 ≤ ns.length) (f : Int) : ∀ m : Nat, rsum (turn1 ns) f m = rsum ns (f + 1) m
  | 0 => rfl
  | m + 1 => by
    rw [rsum, rsum, rsum_turn1 h f m, turn1_length h, nth_turn1 h (Int.emod_nonneg _ (by omega)) (Int.emod_lt_of_pos _ (by omega)), Int.emod_add_emod]
    congr 3
    omega
/-- both tell as much -/
theorem turn1_same {ns l1 t1 l2 t2 : List Int} {f1 m1 f2 m2 : Int} (h : 1 ≤ ns.length) (A : AroundOf ns f1 m1 l1 t1) (B : AroundOf (turn1 ns) f2 m2 l2 t2) : tellR (turn1 ns) f2 m2 = tellR ns f1 m1 := by
  have hl := turn1_length h
  have a1 := A.m0; have a2 := A.m1; have b1 := B.m0; have b2 := B.m1
  have b3 := B.f1; have a3 := A.f1
  rw [hl] at b2 b3
  have e2 := rsum_tell (turn1 ns) B.f0 B.f1 m2.toNat (by omega)
  have e1 := rsum_tell ns A.f0 A.f1 m1.toNat (by omega)
  rw [show (m2.toNat : Int) = m2 by omega] at e2
  rw [show (m1.toNat : Int) = m1 by omega] at e1
  have q1 := A.rbound (f2 + 1) (b := m2.toNat) (by omega) (by omega)
  have q2 := B.rbound (f1 - 1) (b := m1.toNat) (by omega) (by omega)
  rw [rsum_turn1 h] at e2 q2
  rw [show f1 - 1 + 1 = f1 by omega] at q2
  omega
/-- from two best stretches -/
theorem around_small {ns lows : List Int} {f m : Int} (hn : 1 ≤ ns.length) (h : ¬ 2 < ns.length) (B : BestOf ns 1 f m lows) : AroundOf ns f m lows [] := by
  have b1 := B.f0; have b2 := B.m0; have b3 := B.fm
  refine ⟨b1, by omega, b2, by omega, ?_, fun c => absurd c h, fun _ => rfl⟩
  rw [tellR_flat ns b1 (by omega) b3]
  exact B.lo
theorem below_more {P lows : List Int} {least t t' : Int} (h : Below P least lows t) (ht : t ≤ t') : Below P least lows t' := ⟨h.1, fun i hi => by
  obtain ⟨a, b, c⟩ := h.2 i hi
  exact ⟨a, b, by omega⟩⟩
theorem around_flat {ns lows tops : List Int} {f m i c : Int} (h : 2 < ns.length) (B : BestOf ns 1 f m lows) (W : BestOf (within ns) 1 i c tops) (hc : ¬ ns.sum + segS (within ns) i c > segS ns f m) : AroundOf ns f m lows tops := by
  have b1 := B.f0; have b2 := B.m0; have b3 := B.fm
  refine ⟨b1, by omega, b2, by omega, ?_, fun _ => ?_, fun c => absurd h c⟩
  · rw [tellR_flat ns b1 (by omega) b3]
    exact B.lo
  · rw [tellR_flat ns b1 (by omega) b3]
    exact below_more W.lo (by omega)
theorem around_wrap {ns lows tops : List Int} {f m i c : Int} (h : 2 < ns.length) (B : BestOf ns 1 f m lows) (W : BestOf (within ns) 1 i c tops) (hc : ns.sum + segS (within ns) i c > segS ns f m) : AroundOf ns (i + 1 + c) (ns.length - c) lows tops := by
  have w1 := W.f0; have w2 := W.m0; have w3 := W.fm
  rw [within_length (by omega)] at w3
  have e : tellR ns (i + 1 + c) (ns.length - c) = ns.sum + segS (within ns) i c := by
    rw [tellR_wrap ns (by omega) (by omega) (by omega) (by omega), segS_pre _ w1 (by omega) (by rw [within_length (by omega)]; omega), nth_psums_within (by omega) (by omega), nth_psums_within w1 (by omega)]
    rw [show i + 1 + c + ((ns.length : Int) - c) - ns.length = i + 1 by omega, show i + c + 1 = i + 1 + c by omega]
    omega
  refine ⟨by omega, by omega, by omega, by omega, ?_, fun _ => ?_, fun c => absurd h c⟩
  · rw [e]
    exact below_more B.lo (by omega)
  · rw [e]
    exact below_more W.lo (by omega)
end Bs

namespace Bs
open PySem PySem.Spec PyProof.Rows L2
/-- sorted(d) of a dict whose keys are ints, up to a thousand of them -/
def cSortedD (_ : PySem.W.Frag) : List V → Hp → VK → Prop := fun xs H Q => ∃ (d : Addr) (kvs : List (Key × V)) (ks : List Int), xs = [.ref d] ∧ H d = some (.dK kvs) ∧ kvs.map (·.1) = ks.map Sum.inl ∧ ks.length ≤ 1000 ∧
  ∀ (zs : List Int) (p : Addr), zs.Perm ks → zs.Pairwise (· ≤ ·) → H p = none → Q (.ref p) (upd H p (.lst (zs.map V.int)))
theorem c_sortedD {X : Cx} (hcalm : X.calm = true) : CallR X (.builtin "sorted") (cSortedD X.K) := by
  rintro pins s σ H xs us Q I r ⟨d, kvs, ks, rfl, hd, hks, hlen, want⟩
  obtain ⟨u, rfl, ru⟩ := vals1 r
  cases ru
  obtain ⟨_, low, ws, rel, at0⟩ := dk_rd I.hok (.inl hd)
  obtain ⟨ep, at1⟩ := at0.dictAt
  have same : ws.map (·.1) = ks.map Sum.inl := rel.keys.symm.trans hks
  have wl : ws.length = ks.length := by
    have e := congrArg List.length same
    simpa using e
  have lim : (100000 : Nat) ≤ sizeLine := by decide
  refine Calls.call_function_entry kind_sorted plain_sorted entry_sorted (args_sorted1 _) ?_
  unfold Builtin.«sorted»
  refine wpAny_bind (m := checkCount "sorted" 1 1 _) (wpAny_pure ?_)
  refine wpAny_bind (PySem.W.kdu_collect (A := X.A.in1) (PySem.W.kdl_dict (knd := mixKind X.prog X.w) (kvs := ws) (ep := ep) low) (I.ok.hd hcalm) at1 (by omega) ?_)
  intro g tk got kept told
  have gl : got.toList.length = ks.length := by rw [Array.length_toList, told.1, wl]
  have arI : IntsAre got.toList ks := by
    refine ints_each gl ?_
    intro j v ev
    obtain ⟨k, x, q1, q2⟩ := told.2 j v (by rw [← Array.getElem?_toList]; exact ev)
    have q3 : (ks.map (Sum.inl : Int → Key))[j]? = some k := by
      rw [← same, List.getElem?_map, q1]
      rfl
    rw [List.getElem?_map] at q3
    rcases q4 : ks[j]? with _ | y
    · rw [q4] at q3
      cases q3
    · rw [q4] at q3
      cases Option.some.inj q3
      rcases keyIs_shape (show keyIs (Sum.inl y) v = true from q2) with ⟨i, t, ek, ev⟩ | ⟨z, t, ek, ev⟩
      · cases ek
        exact ⟨y, t, rfl, ev⟩
      · cases ek
  have J : Inv X pins σ H { s with heap := g, toks := tk } := I.kept kept
  refine wpAny_bind (wpAny_newList ?_ (by rw [gl]; omega))
  have new : (g.push (seqObj "list" got.toList.toArray 0)).get? g.objs.size = some (seqObj "list" got.toList.toArray 0) := Heap.get?_push_size _ rfl
  show wpAny _ _ _ _ _ { s with heap := g.push (seqObj "list" got.toList.toArray 0), toks := tk }
  refine wpAny_bind (wpAny_holding (wpAny_call_entry slot_list_sort ⟨_, new, rfl⟩ entry_list_sort ?_ (args_list_sort _)))
  refine SrtO.list_sort_ord SrtO.swo_int new (by rw [gl]; omega) (fun h2 => SrtO.ints_sortable arI h2) ?_
  intro out o1 o2
  refine ⟨_, rfl, ?_⟩
  obtain ⟨n1, n2, n3⟩ := SrtO.ints_out arI o1 o2
  obtain ⟨e2, at2⟩ := sortedHeap_at (vs := got.toList) (out := out.toArray) new
  have zl : ((out.map SrtO.iv).map V.int).length ≤ sizeLine := by
    rw [List.length_map, n2.length_eq]
    omega
  refine wpAny_pure ⟨_, rfl, .ref g.objs.size, upd H g.objs.size (.lst ((out.map SrtO.iv).map V.int)), ?_, rfl, want _ _ n2 n3 (J.hok.fresh (Nat.le_refl _))⟩
  refine J.laid (t' := tk) (fun b w e => ?_) (Nat.le_refl _) (show ObjOk X.prog X.w _ _ _ (.lst ((out.map SrtO.iv).map V.int)) from ⟨zl, out, e2, vals_of_ints n1, at2⟩)
  have lt : b < g.objs.size := Heap.lt_size e
  rw [sortedHeap_old (Nat.ne_of_lt lt) (by rw [size_push']; exact Nat.lt_succ_of_lt lt)]
  exact Heap.get?_push_of_some _ e
end Bs

namespace Bs
open PySem L2
/-! ### tables of triples -/
structure R3 where
  ad : Addr
  n : Int
  f : Int
  l : Int
def Rows (H : Hp) (rs : List R3) : Prop := ∀ r ∈ rs, H r.ad = some (.tup [.int r.n, .int r.f, .int r.l])
def refs3 (rs : List R3) : List V := rs.map fun r => V.ref r.ad
theorem refs3_length (rs : List R3) : (refs3 rs).length = rs.length := by simp [refs3]
theorem Rows.same {H H' : Hp} {rs : List R3} (h : Rows H rs) (s : Same H H') : Rows H' rs := fun r hr => s _ _ (h r hr)
theorem Rows.get {H : Hp} {rs : List R3} (h : Rows H rs) {i : Nat} (hi : i < rs.length) : H rs[i].ad = some (.tup [.int rs[i].n, .int rs[i].f, .int rs[i].l]) := h _ (List.getElem_mem hi)
theorem refs3_get {rs : List R3} {i : Nat} (hi : i < rs.length) : (refs3 rs)[i]? = some (.ref rs[i].ad) := by simp [refs3, hi]
def lk3 (rs : List R3) (v : Int) : Option R3 := rs.find? fun r => decide (r.n = v)
theorem lk3_mem {rs : List R3} {v : Int} {r : R3} (h : lk3 rs v = some r) : r ∈ rs ∧ r.n = v := ⟨List.mem_of_find?_eq_some h, by simpa using List.find?_some h⟩
theorem lk3_none {rs : List R3} {v : Int} (h : lk3 rs v = none) : ∀ r ∈ rs, r.n ≠ v := by
  intro r hr
  have := List.find?_eq_none.mp h r hr
  simpa using this
def rising (rs : List R3) : Bool := (List.range (rs.length - 1)).all fun i => !decide ((rs.getD (i + 1) ⟨0, 0, 0, 0⟩).n ≤ (rs.getD i ⟨0, 0, 0, 0⟩).n)
def inTab (ns : List Int) (rs : List R3) (i : Nat) : Bool := match lk3 rs (nth (psums ns) i) with
  | none => false
  | some r => decide (r.f ≤ i) && decide ((i : Int) ≤ r.l)
def noGap (t : Int) (rs : List R3) (r : R3) : Bool := match lk3 rs (r.n + t) with
  | none => true
  | some q => !decide (r.f < q.l)
/-- the word of an answer Never -/
def neverB (ns : List Int) (t : Int) (rs : List R3) : Bool := rising rs && ((List.range (ns.length + 1)).all (inTab ns rs) && rs.all (noGap t rs))
theorem rising_lt {rs : List R3} (h : rising rs = true) {i : Nat} (hi : i + 1 < rs.length) : rs[i].n < rs[i + 1].n := by
  unfold rising at h
  rw [List.all_eq_true] at h
  have := h i (List.mem_range.mpr (by omega))
  simp only [Bool.not_eq_true', decide_eq_false_iff_not, List.getD_eq_getElem?_getD, List.getElem?_eq_getElem hi, List.getElem?_eq_getElem (show i < rs.length by omega), Option.getD_some] at this
  omega
theorem rising_lt2 {rs : List R3} (h : ∀ i : Nat, (hi : i + 1 < rs.length) → rs[i].n < rs[i + 1].n) {i : Nat} : ∀ {j : Nat} (hj : j < rs.length) (hij : i < j), (rs[i]'(by omega)).n < rs[j].n
  | j + 1, hj, hij => by
    have h1 := h j hj
    by_cases e : i = j
    · subst e; exact h1
    · have := rising_lt2 h (i := i) (j := j) (by omega) (by omega)
      omega
theorem rising_inj {rs : List R3} (h : rising rs = true) {i j : Nat} (hi : i < rs.length) (hj : j < rs.length) (e : rs[i].n = rs[j].n) : i = j := by
  rcases Nat.lt_trichotomy i j with c | c | c
  · have := rising_lt2 (fun i hi => rising_lt h hi) hj c
    omega
  · exact c
  · have := rising_lt2 (fun i hi => rising_lt h hi) hi c
    omega
theorem lk3_at {rs : List R3} (h : rising rs = true) {i : Nat} (hi : i < rs.length) : lk3 rs rs[i].n = some rs[i] := by
  cases e : lk3 rs rs[i].n with
  | none => exact absurd rfl (lk3_none e _ (List.getElem_mem hi))
  | some r =>
    obtain ⟨hm, hn⟩ := lk3_mem e
    obtain ⟨j, hj, rfl⟩ := List.getElem_of_mem hm
    have := rising_inj h hj hi hn
    subst this
    rfl
/-- the two dicts -/
def fD (rs : List R3) : List (Key × V) := rs.map fun r => (Sum.inl r.n, V.int r.f)
def lD (rs : List R3) : List (Key × V) := rs.map fun r => (Sum.inl r.n, V.int r.l)
theorem valV_mk (g : R3 → V) (rs : List R3) (v : Int) : valV (rs.map fun r => ((Sum.inl r.n : Key), g r)) (.inl v) = (lk3 rs v).map g := by
  induction rs with
  | nil => rfl
  | cons r rs ih =>
    by_cases e : r.n = v
    · subst e
      rw [List.map_cons, valV_pos rfl]
      simp [lk3]
    · have e' : ¬ ((Sum.inl r.n : Key) = Sum.inl v) := fun z => e (Sum.inl.inj z)
      rw [List.map_cons, valV_neg e', ih]
      simp [lk3, List.find?_cons, e]
theorem valV_fD (rs : List R3) (v : Int) : valV (fD rs) (.inl v) = (lk3 rs v).map fun r => .int r.f := valV_mk _ rs v
theorem valV_lD (rs : List R3) (v : Int) : valV (lD rs) (.inl v) = (lk3 rs v).map fun r => .int r.l := valV_mk _ rs v
theorem take_succ_eq {α : Type} {l : List α} {i : Nat} (hi : i < l.length) : l.take (i + 1) = l.take i ++ [l[i]] := by
  rw [List.take_add_one, List.getElem?_eq_getElem hi]
  rfl
theorem fresh_key {rs : List R3} (h : ∀ i : Nat, (hi : i + 1 < rs.length) → rs[i].n < rs[i + 1].n) {i : Nat} (hi : i < rs.length) : lk3 (rs.take i) rs[i].n = none := by
  cases e : lk3 (rs.take i) rs[i].n with
  | none => rfl
  | some r =>
    obtain ⟨hm, hn⟩ := lk3_mem e
    obtain ⟨j, hj, rfl⟩ := List.getElem_of_mem hm
    rw [List.length_take] at hj
    rw [List.getElem_take] at hn
    have := rising_lt2 h hi (show j < i by omega)
    omega
theorem fD_put {rs : List R3} (h : ∀ i : Nat, (hi : i + 1 < rs.length) → rs[i].n < rs[i + 1].n) {i : Nat} (hi : i < rs.length) : putK (fD (rs.take i)) (.inl rs[i].n) (.int rs[i].f) = fD (rs.take (i + 1)) := by
  rw [putK_new _ (by rw [valV_fD, fresh_key h hi]; rfl), take_succ_eq hi]
  unfold fD
  rw [List.map_append]
  rfl
theorem lD_put {rs : List R3} (h : ∀ i : Nat, (hi : i + 1 < rs.length) → rs[i].n < rs[i + 1].n) {i : Nat} (hi : i < rs.length) : putK (lD (rs.take i)) (.inl rs[i].n) (.int rs[i].l) = lD (rs.take (i + 1)) := by
  rw [putK_new _ (by rw [valV_lD, fresh_key h hi]; rfl), take_succ_eq hi]
  unfold lD
  rw [List.map_append]
  rfl
theorem put_take {rs : List R3} {i : Nat} (h : ∀ j : Nat, (hj : j + 1 < rs.length) → j < i → rs[j].n < rs[j + 1].n) (hi : i < rs.length) :
    putK (fD (rs.take i)) (.inl rs[i].n) (.int rs[i].f) = fD (rs.take (i + 1)) ∧ putK (lD (rs.take i)) (.inl rs[i].n) (.int rs[i].l) = lD (rs.take (i + 1)) := by
  have hl : (rs.take (i + 1)).length = i + 1 := by rw [List.length_take]; omega
  have h' : ∀ j : Nat, (hj : j + 1 < (rs.take (i + 1)).length) → (rs.take (i + 1))[j].n < (rs.take (i + 1))[j + 1].n := by
    intro j hj
    rw [List.getElem_take, List.getElem_take]
    exact h j (by omega) (by omega)
  have q1 := fD_put h' (i := i) (by omega)
  have q2 := lD_put h' (i := i) (by omega)
  have e1 : (rs.take (i + 1)).take i = rs.take i := by rw [List.take_take]; congr 1; omega
  have e2 : (rs.take (i + 1)).take (i + 1) = rs.take (i + 1) := by rw [List.take_take]; congr 1; omega
  rw [e1, e2, List.getElem_take] at q1 q2
  exact ⟨q1, q2⟩
theorem fD_length (rs : List R3) : (fD rs).length = rs.length := by simp [fD]
theorem lD_length (rs : List R3) : (lD rs).length = rs.length := by simp [lD]
theorem not_rising {rs : List R3} {i : Nat} (hi : i + 1 < rs.length) (h : ¬ rs[i].n < rs[i + 1].n) : rising rs = false := by
  cases e : rising rs with
  | false => rfl
  | true => exact absurd (rising_lt e hi) h
theorem rising_of {rs : List R3} (h : ∀ i : Nat, (hi : i + 1 < rs.length) → rs[i].n < rs[i + 1].n) : rising rs = true := by
  unfold rising
  rw [List.all_eq_true]
  intro i hi
  rw [List.mem_range] at hi
  have h1 : i + 1 < rs.length := by omega
  have := h i h1
  simp only [Bool.not_eq_true', decide_eq_false_iff_not, List.getD_eq_getElem?_getD, List.getElem?_eq_getElem h1, List.getElem?_eq_getElem (show i < rs.length by omega), Option.getD_some]
  omega
/-! ### pairs by places -/
theorem pairs_nonneg (t : Int) : ∀ l : List Int, 0 ≤ pairs t l
  | [] => Int.le_refl _
  | x :: r => by
    have := pairs_nonneg t r
    rw [pairs]
    omega
theorem pairs_pos (t : Int) : ∀ (l : List Int) (i j : Nat), i < j → j < l.length → nth l j - nth l i = t → 0 < pairs t l
  | [], i, j, _, h, _ => by simp at h
  | x :: r, 0, j + 1, _, h, e => by
    have hj : j < r.length := by simpa using h
    have e1 : nth (x :: r) ((0 : Nat) : Int) = x := rfl
    have e2 : nth (x :: r) ((j + 1 : Nat) : Int) = r[j] := by simp [nth, hj]
    rw [e1, e2] at e
    have hm : x + t ∈ r := by
      have : x + t = r[j] := by omega
      rw [this]
      exact List.getElem_mem hj
    have := List.count_pos_iff.mpr hm
    have := pairs_nonneg t r
    rw [pairs]
    omega
  | x :: r, i + 1, j + 1, hij, h, e => by
    have hj : j < r.length := by simpa using h
    have hi : i < r.length := by omega
    have e1 : nth (x :: r) ((i + 1 : Nat) : Int) = nth r i := by simp [nth, hi]
    have e2 : nth (x :: r) ((j + 1 : Nat) : Int) = nth r j := by simp [nth, hj]
    rw [e1, e2] at e
    have := pairs_pos t r i j (by omega) hj e
    rw [pairs]
    omega
theorem pairs_zero (t : Int) : ∀ l : List Int, (∀ i j : Nat, i < j → j < l.length → nth l j - nth l i ≠ t) → pairs t l = 0
  | [], _ => rfl
  | x :: r, h => by
    have h1 : r.count (x + t) = 0 := by
      apply List.count_eq_zero.mpr
      intro hm
      obtain ⟨j, hj, e⟩ := List.getElem_of_mem hm
      refine h 0 (j + 1) (by omega) (by simpa using hj) ?_
      have e1 : nth (x :: r) ((0 : Nat) : Int) = x := rfl
      have e2 : nth (x :: r) ((j + 1 : Nat) : Int) = r[j] := by simp [nth, hj]
      rw [e1, e2, e]
      omega
    have h2 := pairs_zero t r fun i j hij hj e => h (i + 1) (j + 1) (by omega) (by simpa using hj) (by
      have hi : i < r.length := by omega
      have e1 : nth (x :: r) ((i + 1 : Nat) : Int) = nth r i := by simp [nth, hi]
      have e2 : nth (x :: r) ((j + 1 : Nat) : Int) = nth r j := by simp [nth, hj]
      rw [e1, e2]
      exact e)
    rw [pairs, h1, h2]
    rfl
theorem pairs_drop (t : Int) {l : List Int} {a : Nat} (h : a < l.length) : pairs t (l.drop a) = ((l.drop (a + 1)).count (nth l a + t) : Int) + pairs t (l.drop (a + 1)) := by
  rw [List.drop_eq_getElem_cons h, pairs]
  have : nth l a = l[a] := by simp [nth, h]
  rw [this]
theorem count_drop (l : List Int) (a : Nat) (y : Int) : (l.drop a).count y = ((List.range (l.length - a)).filter fun j : Nat => decide (nth l ((a : Int) + j) = y)).length := by
  have e : l.drop a = (List.range (l.length - a)).map fun j : Nat => nth l ((a : Int) + j) := by
    apply List.ext_getElem
    · simp
    · intro i h1 h2
      simp at h1
      rw [List.getElem_drop, List.getElem_map, List.getElem_range]
      have : a + i < l.length := by omega
      unfold nth
      rw [show ((a : Int) + (i : Int)).toNat = a + i by omega]
      simp [this]
  rw [e, List.count_eq_countP, List.countP_map, List.countP_eq_length_filter]
  congr 1
/-! ### what exact has seen -/
def SeenF (P : List Int) (i : Nat) (kvs : List (Key × V)) : Prop := ∀ v : Int, match valV kvs (.inl v) with
  | none => ∀ j : Nat, j < i → nth P j ≠ v
  | some w => ∃ j : Nat, j < i ∧ w = .int j ∧ nth P j = v ∧ ∀ m : Nat, m < j → nth P m ≠ v
def SeenL (P : List Int) (i : Nat) (kvs : List (Key × V)) : Prop := ∀ v : Int, match valV kvs (.inl v) with
  | none => ∀ j : Nat, j < i → nth P j ≠ v
  | some w => ∃ j : Nat, j < i ∧ w = .int j ∧ nth P j = v ∧ ∀ m : Nat, j < m → m < i → nth P m ≠ v
theorem seenF_zero (P : List Int) : SeenF P 0 [] := fun v => by
  rw [valV_nil]
  intro j hj
  omega
theorem seenL_zero (P : List Int) : SeenL P 0 [] := fun v => by
  rw [valV_nil]
  intro j hj
  omega
theorem SeenF.put {P : List Int} {i : Nat} {kvs : List (Key × V)} (h : SeenF P i kvs) (hn : valV kvs (.inl (nth P i)) = none) : SeenF P (i + 1) (putK kvs (.inl (nth P i)) (.int i)) := fun v => by
  rw [valV_put]
  by_cases e : v = nth P i
  · subst e
    rw [if_pos rfl]
    have := h (nth P i)
    rw [hn] at this
    exact ⟨i, by omega, rfl, rfl, fun m hm => this m hm⟩
  · have e' : ¬ ((Sum.inl v : Key) = Sum.inl (nth P i)) := fun z => e (Sum.inl.inj z)
    rw [if_neg e']
    have := h v
    split at this
    · intro j hj
      by_cases c : j = i
      · subst c; exact fun z => e z.symm
      · exact this j (by omega)
    · obtain ⟨j, h1, h2, h3, h4⟩ := this
      exact ⟨j, by omega, h2, h3, h4⟩
theorem SeenF.keep {P : List Int} {i : Nat} {kvs : List (Key × V)} (h : SeenF P i kvs) {w : V} (hn : valV kvs (.inl (nth P i)) = some w) : SeenF P (i + 1) kvs := fun v => by
  have := h v
  split at this
  · rename_i hv
    intro j hj
    by_cases c : j = i
    · subst c
      intro z
      rw [z, hv] at hn
      cases hn
    · exact this j (by omega)
  · obtain ⟨j, h1, h2, h3, h4⟩ := this
    exact ⟨j, by omega, h2, h3, h4⟩
theorem SeenL.put {P : List Int} {i : Nat} {kvs : List (Key × V)} (h : SeenL P i kvs) : SeenL P (i + 1) (putK kvs (.inl (nth P i)) (.int i)) := fun v => by
  rw [valV_put]
  by_cases e : v = nth P i
  · subst e
    rw [if_pos rfl]
    exact ⟨i, by omega, rfl, rfl, fun m h1 h2 => by omega⟩
  · have e' : ¬ ((Sum.inl v : Key) = Sum.inl (nth P i)) := fun z => e (Sum.inl.inj z)
    rw [if_neg e']
    have := h v
    split at this
    · intro j hj
      by_cases c : j = i
      · subst c; exact fun z => e z.symm
      · exact this j (by omega)
    · obtain ⟨j, h1, h2, h3, h4⟩ := this
      refine ⟨j, by omega, h2, h3, fun m hm hm2 => ?_⟩
      by_cases c : m = i
      · subst c; exact fun z => e z.symm
      · exact h4 m hm (by omega)
/-- the keys, in the order they came -/
def KeysI (kvs : List (Key × V)) (ks : List Int) : Prop := kvs.map (·.1) = ks.map Sum.inl ∧ ks.Nodup
theorem keysI_nil : KeysI [] [] := ⟨rfl, List.nodup_nil⟩
theorem KeysI.put {kvs : List (Key × V)} {ks : List Int} {v : Int} {w : V} (h : KeysI kvs ks) (hn : valV kvs (.inl v) = none) : KeysI (putK kvs (.inl v) w) (ks ++ [v]) := by
  refine ⟨by rw [putK_new _ hn, List.map_append, h.1]; simp, nd_snoc h.2 fun hm => ?_⟩
  have : (Sum.inl v : Key) ∈ kvs.map (·.1) := by
    rw [h.1]
    exact List.mem_map.mpr ⟨v, hm, rfl⟩
  exact valV_not hn this
theorem KeysI.mem {kvs : List (Key × V)} {ks : List Int} {v : Int} {w : V} (h : KeysI kvs ks) (e : valV kvs (.inl v) = some w) : v ∈ ks := by
  have := valV_in e
  rw [h.1] at this
  obtain ⟨u, hu, e2⟩ := List.mem_map.mp this
  cases Sum.inl.inj e2
  exact hu
theorem KeysI.has {kvs : List (Key × V)} {ks : List Int} {v : Int} (h : KeysI kvs ks) (hv : v ∈ ks) : ∃ w, valV kvs (.inl v) = some w := by
  cases e : valV kvs (.inl v) with
  | some w => exact ⟨w, rfl⟩
  | none =>
    have := valV_not e
    rw [h.1] at this
    exact absurd (List.mem_map.mpr ⟨v, hv, rfl⟩) this
/-- no earlier sum parts from a sum by t -/
def NoPair (P : List Int) (t : Int) (i : Nat) : Prop := ∀ a b : Nat, a < b → b < i → nth P b - nth P a ≠ t
/-- the numbers of a table, each with its first and its last place -/
def tabOf (P : List Int) (z : Int) (r : R3) : Prop := r.n = z ∧ (∃ j : Nat, j < P.length ∧ r.f = j ∧ nth P j = z ∧ ∀ m : Nat, m < j → nth P m ≠ z) ∧ ∃ j : Nat, j < P.length ∧ r.l = j ∧ nth P j = z ∧ ∀ m : Nat, j < m → m < P.length → nth P m ≠ z
theorem never_holds {ns : List Int} {t : Int} {zs : List Int} {rs : List R3} (hr : rs.length = zs.length) (hrow : ∀ (i : Nat) (h : i < rs.length), tabOf (psums ns) (zs[i]'(by omega)) rs[i]) (hs : zs.Pairwise (· ≤ ·)) (hn : zs.Nodup)
    (hall : ∀ j : Nat, j < (psums ns).length → nth (psums ns) j ∈ zs) (hp : NoPair (psums ns) t (psums ns).length) : neverB ns t rs = true := by
  have hz := psums_length ns
  have hris : rising rs = true := rising_of fun i hi => by
    have h1 := (hrow i (by omega)).1
    have h2 := (hrow (i + 1) hi).1
    rw [h1, h2]
    have q1 := List.pairwise_iff_getElem.mp hs i (i + 1) (by omega) (by omega) (by omega)
    have q2 := List.pairwise_iff_getElem.mp hn i (i + 1) (by omega) (by omega) (by omega)
    omega
  unfold neverB
  rw [hris, Bool.true_and, Bool.and_eq_true, List.all_eq_true, List.all_eq_true]
  constructor
  · intro i hi
    rw [List.mem_range] at hi
    obtain ⟨k, hk, e⟩ := List.getElem_of_mem (hall i (by omega))
    have hkr : k < rs.length := by omega
    have hrk := hrow k hkr
    have el : lk3 rs (nth (psums ns) i) = some rs[k] := by
      rw [← e, ← hrk.1]
      exact lk3_at hris hkr
    unfold inTab
    rw [el]
    obtain ⟨_, ⟨j1, a1, a2, a3, a4⟩, ⟨j2, c1, c2, c3, c4⟩⟩ := hrk
    simp only [Bool.and_eq_true, decide_eq_true_eq]
    rw [a2, c2]
    constructor
    · by_cases q : i < j1
      · exact absurd e.symm (a4 i q)
      · omega
    · by_cases q : j2 < i
      · exact absurd e.symm (c4 i q (by omega))
      · omega
  · intro r hm
    unfold noGap
    cases el : lk3 rs (r.n + t) with
    | none => rfl
    | some q =>
      obtain ⟨hq, hqn⟩ := lk3_mem el
      obtain ⟨i, hi, rfl⟩ := List.getElem_of_mem hm
      obtain ⟨j, hj, rfl⟩ := List.getElem_of_mem hq
      obtain ⟨e1, ⟨j1, a1, a2, a3, a4⟩, _⟩ := hrow i hi
      obtain ⟨e2, _, ⟨j2, c1, c2, c3, c4⟩⟩ := hrow j hj
      show (!decide (rs[i].f < rs[j].l)) = true
      rw [a2, c2]
      by_cases q : j1 < j2
      · refine absurd ?_ (hp j1 j2 q c1)
        omega
      · simp
        omega
section
variable {K : PySem.W.Frag} {σ : L2.St} {H H' : Hp} {Q : VK} {te : TE} {t : TS} {D : Ends} {d : Addr} {kvs : List (Key × V)}
/-! ### what a locked dict is walked for -/
theorem same_unlock {od : Obj} (hd : H d = some (.dK kvs)) (s : Same (upd H d (.frz od (.dK kvs))) H') : Same H (upd H' d (.dK kvs)) := fun b o e => by
  by_cases c : b = d
  · subst c
    rw [hd] at e
    cases e
    exact upd_same
  · rw [upd_ne c]
    exact s b o (by rw [upd_ne c]; exact e)
theorem lcKeys {n k : Nat} (hv : σ[n]? = some (some (.ref d))) (hd : H d = some (.dK kvs)) (hn : kvs.length ≤ 100000) (hw : ∀ x : V, wipe ((wipe σ [k]).set k (some x)) [k] = wipe σ [k]) (f : Nat → Bool)
    (he : ∀ (i : Nat) (od : Obj) (H' : Hp) (key : Key) (v : V), kvs[i]? = some (key, v) → Same (upd H d (.frz od (.dK kvs))) H' → ∀ Q' : VK, (∀ H'', Same H' H'' → Q' (.bl (f i)) H'') → te ((wipe σ [k]).set k (some (kV key))) H' Q')
    (q : ∀ p H', H p = none → Same H H' → H' p = some (.lst (((List.range kvs.length).map f).map V.bl)) → Q (.ref p) H') : tLockE (tLc (iKeys (tVar n)) (gName k) tYes te [k]) σ H Q := by
  refine ⟨d, .dK kvs, hd, trivial, fun od => ?_⟩
  refine wp_lc ⟨.ref d, hv, d, od, rfl, .inl ⟨kvs, upd_same, ?_⟩⟩
  have W : Walk (Itk d od kvs) kvs.length (fun H => H d = some (.frz od (.dK kvs))) (fun i H x H' => H' = H ∧ x = kV ((kvs.getD i (.inl 0, .non)).1)) :=
    (walk_keys (d := d) (o := od) (kvs := kvs)).mono (fun _ h => h) fun i H x H' hi _ y => by
      obtain ⟨y1, key, v, y2, y3⟩ := y
      refine ⟨y1, ?_⟩
      rw [List.getD_eq_getElem?_getD, y2, y3]
      rfl
  refine lcW (σi := fun i => (wipe σ [k]).set k (some (kV ((kvs.getD i (.inl 0, .non)).1)))) W (fun _ => true) (fun i => .bl (f i)) hn (fun H' s => s _ _ upd_same) (fun i H' k' z => z) (fun i => hw _) (fun i H' _ _ Q' z => z H' (Same.refl H')) (fun i H' hi _ s Q' hq => ?_) (fun p H' np s hp => ?_)
  · have e : kvs[i]? = some kvs[i] := List.getElem?_eq_getElem hi
    rw [List.getD_eq_getElem?_getD, e]
    exact he i od H' kvs[i].1 kvs[i].2 e s Q' hq
  · have npd : p ≠ d := fun z => by
      rw [z, upd_same] at np
      cases np
    rw [upd_ne npd] at np
    refine ⟨s _ _ upd_same, q p _ np (same_unlock hd s) ?_⟩
    rw [upd_ne npd, hp, List.filter_eq_self.mpr (fun _ _ => rfl), List.map_map]
    rfl
/-- a table made over a list of ints -/
theorem lcTab {zs : List Int} {a : Addr} {k : Nat} (ha : SqL K H a (zs.map V.int)) (hn : zs.length ≤ 100000) (hw : ∀ x : V, wipe ((wipe σ [k]).set k (some x)) [k] = wipe σ [k]) (P : Int → Int → Int → Prop) (hP : ∀ z ∈ zs, ∃ f l, P z f l)
    (he : ∀ z f l H', Same H H' → z ∈ zs → P z f l → ∀ Q' : VK, (∀ T, H' T = none → Q' (.ref T) (upd H' T (.tup [.int z, .int f, .int l]))) → te ((wipe σ [k]).set k (some (.int z))) H' Q')
    (q : ∀ p (rs : List R3) H', H p = none → Same H H' → H' p = some (.lst (refs3 rs)) → Rows H' rs → (∀ r ∈ rs, H r.ad = none) → (hl : rs.length = zs.length) → (∀ (i : Nat) (h : i < rs.length), rs[i].n = zs[i]'(by omega) ∧ P (zs[i]'(by omega)) rs[i].f rs[i].l) → Q (.ref p) H') : kLc (gName k) tYes te [k] σ Q (Itl K a) H := by
  intro p np
  refine lc_it (walkI (ns := zs)) (Qd := fun H' => Q (.ref p) H') (fun i H' => Same H H' ∧ ∃ rs : List R3, H' p = some (.lst (refs3 rs)) ∧ Rows H' rs ∧ (∀ r ∈ rs, H r.ad = none ∧ r.ad ≠ p) ∧ ∃ hl : rs.length = i, ∀ (j : Nat) (h : j < rs.length), ∃ hz : j < zs.length, rs[j].n = zs[j] ∧ P zs[j] rs[j].f rs[j].l)
    ⟨same_new (Same.refl H) np, [], upd_same, (fun r hr => by cases hr), (fun r hr => by cases hr), rfl, fun j h => absurd h (Nat.not_lt_zero _)⟩ (fun i H' _ w => w.1.seq ha) ?_ ?_
  · rintro i x H1 H2 hi ⟨s1, rs, h1, R, N, hl, h2⟩ ⟨rfl, rfl⟩
    refine ⟨hw _, ?_⟩
    show tYes _ _ _
    refine wp_tYes ?_
    rw [if_pos rfl]
    have hnth : nth zs i = zs[i] := nth_eq hi
    have hm : nth zs i ∈ zs := by rw [hnth]; exact List.getElem_mem hi
    obtain ⟨f, l, hp⟩ := hP _ hm
    refine he _ f l H2 s1 hm hp _ fun T nT => ?_
    have hpT : p ≠ T := ne_of_none h1 nT
    refine ⟨refs3 rs, at_new h1 nT, szl (by rw [refs3_length]; omega), ?_, rs ++ [⟨T, nth zs i, f, l⟩], ?_, ?_, ?_, ?_, ?_⟩
    · exact same_mut (same_new s1 nT) np
    · rw [upd_same]
      simp [refs3]
    · intro r hr
      rcases List.mem_append.mp hr with hr | hr
      · rw [upd_ne (N r hr).2]
        exact at_new (R r hr) nT
      · rw [List.mem_singleton] at hr
        subst hr
        rw [upd_ne (Ne.symm hpT)]
        exact upd_same
    · intro r hr
      rcases List.mem_append.mp hr with hr | hr
      · exact N r hr
      · rw [List.mem_singleton] at hr
        subst hr
        exact ⟨s1.free nT, Ne.symm hpT⟩
    · rw [List.length_append, hl]
      rfl
    · intro j hj
      rw [List.length_append] at hj
      by_cases c : j < rs.length
      · obtain ⟨z1, z2⟩ := h2 j c
        refine ⟨z1, ?_⟩
        rw [List.getElem_append_left c]
        exact z2
      · have e : j = rs.length := by
          simp at hj
          omega
        subst e
        have hz : rs.length < zs.length := by omega
        refine ⟨hz, ?_⟩
        rw [List.getElem_append_right (Nat.le_refl _)]
        simp only [Nat.sub_self, List.getElem_cons_zero]
        have e3 : nth zs i = zs[rs.length] := by
          rw [hnth]
          congr 1
          exact hl.symm
        rw [← e3]
        exact ⟨rfl, hp⟩
  · rintro H' ⟨s1, rs, h1, R, N, hl, h2⟩
    exact q p rs H' np s1 h1 R (fun r hr => (N r hr).1) hl fun i h => (h2 i h).2
/-- a for over a dict that changes nothing at all -/
theorem forKeys {n : Nat} {g : TG} (hv : σ[n]? = some (some (.ref d))) (hd : H d = some (.dK kvs)) (R : Nat → L2.St → Prop) (h0 : R 0 σ)
    (hs : ∀ (i : Nat) (od : Obj) σ' (key : Key) (v : V), kvs[i]? = some (key, v) → R i σ' → g (kV key) σ' (upd H d (.frz od (.dK kvs))) fun σ2 H2 => t
      { nx := fun σ3 H3 => R (i + 1) σ3 ∧ H3 = upd H d (.frz od (.dK kvs)), rt := fun v H' => H' d = some (.frz od (.dK kvs)) ∧ D.rt v (upd H' d (.dK kvs)), ct := fun σ3 H3 => R (i + 1) σ3 ∧ H3 = upd H d (.frz od (.dK kvs)), bk := fun σ' H' => H' d = some (.frz od (.dK kvs)) ∧ D.nx σ' (upd H' d (.dK kvs)) } σ2 H2)
    (hd2 : ∀ σ', R kvs.length σ' → D.nx σ' H) : tLock (tFor (iKeys (tVar n)) g t) D σ H := by
  refine ⟨d, .dK kvs, hd, trivial, fun od => ?_⟩
  refine wp_for ⟨.ref d, hv, d, od, rfl, .inl ⟨kvs, upd_same, ?_⟩⟩
  refine for_it (walk_keys (d := d) (o := od) (kvs := kvs)) (fun i σ' H' => R i σ' ∧ H' = upd H d (.frz od (.dK kvs))) ⟨h0, rfl⟩ (fun i σ' H' _ p => by rw [p.2]; exact upd_same) (fun i x σ' H' H2 hi p y => ?_) (fun σ' H' p => ?_)
  · obtain ⟨y1, key, v, y2, rfl⟩ := y
    obtain ⟨p1, p2⟩ := p
    subst y1
    subst p2
    exact hs i od σ' key v y2 p1
  · obtain ⟨p1, p2⟩ := p
    subst p2
    have e : upd (upd H d (.frz od (.dK kvs))) d (.dK kvs) = H := by
      rw [upd_upd]
      funext b
      by_cases c : b = d
      · subst c; rw [upd_same, hd]
      · rw [upd_ne c]
    refine ⟨upd_same, ?_⟩
    rw [e]
    exact hd2 σ' p1
theorem wp_altL {ta tb : TE} (q : ta σ H Q) : tAlt ta tb σ H Q := .inl q
theorem wp_altR {ta tb : TE} (q : tb σ H Q) : tAlt ta tb σ H Q := .inr q
end
end Bs

namespace Bs
open PySem L2
/-! ### several stretches: the mathematics -/
/-- the best sum whose last stretch ends with the i-th number, begun behind a best sum -/
def runF (ns : List Int) (b : Nat → Int) : Nat → Int
  | 0 => b 0
  | i + 1 => max (runF ns b i) (b i) + nth ns i
def bestF (ns : List Int) (b : Nat → Int) : Nat → Int
  | 0 => b 0
  | i + 1 => max (bestF ns b i) (runF ns b (i + 1))
/-- the best sum of at most k stretches of the first i numbers -/
def sevF (ns : List Int) : Nat → Nat → Int
  | 0 => fun _ => 0
  | k + 1 => bestF ns (sevF ns k)
def sevG (ns : List Int) (k i : Nat) : Int := runF ns (sevF ns k) i
theorem sevF_zero (ns : List Int) (i : Nat) : sevF ns 0 i = 0 := rfl
theorem sevF_at0 (ns : List Int) : ∀ k, sevF ns k 0 = 0
  | 0 => rfl
  | k + 1 => sevF_at0 ns k
theorem sevG_at0 (ns : List Int) (k : Nat) : sevG ns k 0 = 0 := sevF_at0 ns k
theorem sevG_succ (ns : List Int) (k i : Nat) : sevG ns k (i + 1) = max (sevG ns k i) (sevF ns k i) + nth ns i := rfl
theorem sevF_succ (ns : List Int) (k i : Nat) : sevF ns (k + 1) (i + 1) = max (sevF ns (k + 1) i) (sevG ns k (i + 1)) := rfl
theorem sevF_mono_i (ns : List Int) : ∀ k i, sevF ns k i ≤ sevF ns k (i + 1)
  | 0, _ => Int.le_refl _
  | k + 1, i => by rw [sevF_succ]; omega
theorem sevF_nonneg (ns : List Int) (k : Nat) : ∀ i, 0 ≤ sevF ns k i
  | 0 => by rw [sevF_at0]; omega
  | i + 1 => Int.le_trans (sevF_nonneg ns k i) (sevF_mono_i ns k i)
/-- one stretch more is never worse -/
theorem sev_mono_k (ns : List Int) : ∀ i k, sevF ns k i ≤ sevF ns (k + 1) i ∧ sevG ns k i ≤ sevG ns (k + 1) i
  | 0, k => by rw [sevF_at0, sevF_at0, sevG_at0, sevG_at0]; omega
  | i + 1, k => by
    have h1 := sev_mono_k ns i k
    have g : sevG ns k (i + 1) ≤ sevG ns (k + 1) (i + 1) := by
      rw [sevG_succ, sevG_succ]
      omega
    refine ⟨?_, g⟩
    cases k with
    | zero => rw [sevF_zero]; exact sevF_nonneg ns _ _
    | succ k =>
      have h2 := sev_mono_k ns i k
      have g2 : sevG ns k (i + 1) ≤ sevG ns (k + 1) (i + 1) := by
        rw [sevG_succ, sevG_succ]
        omega
      rw [sevF_succ ns (k + 1), sevF_succ ns k]
      omega
/-- no more stretches than places -/
theorem sev_flat (ns : List Int) : ∀ i k, i ≤ k → sevF ns (k + 1) i = sevF ns k i ∧ sevG ns (k + 1) i = sevG ns k i
  | 0, k, _ => by rw [sevF_at0, sevF_at0, sevG_at0, sevG_at0]; exact ⟨rfl, rfl⟩
  | i + 1, 0, h => by omega
  | i + 1, k + 1, h => by
    have h1 := sev_flat ns i (k + 1) (by omega)
    have h2 := sev_flat ns i k (by omega)
    have g1 : sevG ns (k + 2) (i + 1) = sevG ns (k + 1) (i + 1) := by rw [sevG_succ, sevG_succ, h1.1, h1.2]
    have g2 : sevG ns (k + 1) (i + 1) = sevG ns k (i + 1) := by rw [sevG_succ, sevG_succ, h2.1, h2.2]
    refine ⟨?_, g1⟩
    rw [sevF_succ ns (k + 1), sevF_succ ns k, h1.1, g2]
theorem stepB {f0 f1 f2 g0 g1 g2 x : Int} (A : f0 + f2 ≤ 2 * f1) (B : g0 + g2 ≤ 2 * g1) (C : f0 + g1 ≤ f1 + g0) (D : g0 + f2 ≤ g1 + f1) : max g0 f0 + x + (max g2 f2 + x) ≤ 2 * (max g1 f1 + x) := by
  rcases Int.le_total g0 f0 with p | p <;> rcases Int.le_total g2 f2 with q | q <;> simp only [Int.max_eq_right p, Int.max_eq_left p, Int.max_eq_right q, Int.max_eq_left q] <;>
    rcases Int.le_total g1 f1 with r | r <;> simp only [Int.max_eq_right r, Int.max_eq_left r] <;> omega
theorem stepA {fj fk fk1 fk2 gj gk gk1 x u v w hj hk hk1 : Int} (A0 : fj + fk1 ≤ 2 * fk) (A1 : fk + fk2 ≤ 2 * fk1) (C1 : fk + gk1 ≤ fk1 + gk) (D0 : gj + fk1 ≤ gk + fk)
    (wj : hj = gj + x ∨ hj = fj + x) (wk : gk + x ≤ hk ∧ fk + x ≤ hk) (w1 : hk1 = gk1 + x ∨ hk1 = fk1 + x) (hB : hj + hk1 ≤ 2 * hk)
    (hu : u = fk ∨ u = hj) (hv : fk1 ≤ v ∧ hk ≤ v) (hw : w = fk2 ∨ w = hk1) : u + w ≤ 2 * v := by
  rcases hu with hu | hu <;> rcases hw with hw | hw <;> rcases wj with wj | wj <;> rcases w1 with w1 | w1 <;> omega
theorem stepC {fk fk1 gk gk1 x u v hj hk hk1 : Int} (C1 : fk + gk1 ≤ fk1 + gk)
    (wk : gk + x ≤ hk ∧ fk + x ≤ hk) (w1 : hk1 = gk1 + x ∨ hk1 = fk1 + x) (hB : hj + hk1 ≤ 2 * hk)
    (hu : u = fk ∨ u = hj) (hv : fk1 ≤ v ∧ hk ≤ v) : u + hk1 ≤ v + hk := by
  rcases hu with hu | hu <;> rcases w1 with w1 | w1 <;> omega
theorem stepD {fk fk1 fk2 gk gk1 x v w hk hk1 : Int} (A1 : fk + fk2 ≤ 2 * fk1) (D1 : gk + fk2 ≤ gk1 + fk1)
    (wk : hk = gk + x ∨ hk = fk + x) (w1 : gk1 + x ≤ hk1 ∧ fk1 + x ≤ hk1) (hv : fk1 ≤ v ∧ hk ≤ v) (hw : w = fk2 ∨ w = hk1) : hk + w ≤ hk1 + v := by
  rcases hw with hw | hw <;> rcases wk with wk | wk <;> omega
theorem step0 {fk1 fk2 gk gk1 x v w hk hk1 : Int} (A1 : 0 + fk2 ≤ 2 * fk1) (C1 : 0 + gk1 ≤ fk1 + gk)
    (wk : gk + x ≤ hk ∧ 0 + x ≤ hk) (w1 : hk1 = gk1 + x ∨ hk1 = fk1 + x) (hv : fk1 ≤ v ∧ hk ≤ v) (hw : w = fk2 ∨ w = hk1) : 0 + w ≤ 2 * v := by
  rcases hw with hw | hw <;> rcases w1 with w1 | w1 <;> omega
theorem max_facts (a b x : Int) : (max a b + x = a + x ∨ max a b + x = b + x) ∧ (a + x ≤ max a b + x ∧ b + x ≤ max a b + x) := by omega
theorem max_facts0 (a b : Int) : (max a b = a ∨ max a b = b) ∧ (a ≤ max a b ∧ b ≤ max a b) := by omega
/-- each stretch more brings no more than the one before -/
theorem sev_conc (ns : List Int) : ∀ i k, sevF ns k i + sevF ns (k + 2) i ≤ 2 * sevF ns (k + 1) i ∧ sevG ns k i + sevG ns (k + 2) i ≤ 2 * sevG ns (k + 1) i ∧
    sevF ns k i + sevG ns (k + 1) i ≤ sevF ns (k + 1) i + sevG ns k i ∧ sevG ns k i + sevF ns (k + 2) i ≤ sevG ns (k + 1) i + sevF ns (k + 1) i
  | 0, k => by
    simp only [sevF_at0, sevG_at0]
    omega
  | i + 1, k => by
    obtain ⟨a, b, c, d⟩ := sev_conc ns i k
    have gf : ∀ k, (sevG ns k (i + 1) = sevG ns k i + nth ns i ∨ sevG ns k (i + 1) = sevF ns k i + nth ns i) ∧ (sevG ns k i + nth ns i ≤ sevG ns k (i + 1) ∧ sevF ns k i + nth ns i ≤ sevG ns k (i + 1)) := fun k => max_facts _ _ _
    have ff : ∀ k, (sevF ns (k + 1) (i + 1) = sevF ns (k + 1) i ∨ sevF ns (k + 1) (i + 1) = sevG ns k (i + 1)) ∧ (sevF ns (k + 1) i ≤ sevF ns (k + 1) (i + 1) ∧ sevG ns k (i + 1) ≤ sevF ns (k + 1) (i + 1)) := fun k => max_facts0 _ _
    have hB : sevG ns k (i + 1) + sevG ns (k + 2) (i + 1) ≤ 2 * sevG ns (k + 1) (i + 1) := stepB a b c d
    refine ⟨?_, hB, ?_, stepD a d (gf k).1 (gf (k + 1)).2 (ff k).2 (ff (k + 1)).1⟩
    · cases k with
      | zero => exact step0 (x := nth ns i) a c (gf 0).2 (gf 1).1 (ff 0).2 (ff 1).1
      | succ j =>
        obtain ⟨a0, b0, c0, d0⟩ := sev_conc ns i j
        have hBj : sevG ns j (i + 1) + sevG ns (j + 2) (i + 1) ≤ 2 * sevG ns (j + 1) (i + 1) := stepB a0 b0 c0 d0
        exact stepA a0 a c d0 (gf j).1 (gf (j + 1)).2 (gf (j + 2)).1 hBj (ff j).1 (ff (j + 1)).2 (ff (j + 2)).1
    · cases k with
      | zero =>
        have h1 := (gf 0).2
        have h2 := (ff 0).2
        have c' : 0 + sevG ns 1 i ≤ sevF ns 1 i + sevG ns 0 i := c
        have h1' : sevG ns 0 i + nth ns i ≤ sevG ns 0 (i + 1) ∧ 0 + nth ns i ≤ sevG ns 0 (i + 1) := h1
        show 0 + sevG ns 1 (i + 1) ≤ sevF ns 1 (i + 1) + sevG ns 0 (i + 1)
        have h2' : sevF ns 1 i ≤ sevF ns 1 (i + 1) ∧ sevG ns 0 (i + 1) ≤ sevF ns 1 (i + 1) := h2
        have h3 : sevG ns 1 (i + 1) = sevG ns 1 i + nth ns i ∨ sevG ns 1 (i + 1) = sevF ns 1 i + nth ns i := (gf 1).1
        rcases h3 with h3 | h3 <;> omega
      | succ j =>
        obtain ⟨a0, b0, c0, d0⟩ := sev_conc ns i j
        have hBj : sevG ns j (i + 1) + sevG ns (j + 2) (i + 1) ≤ 2 * sevG ns (j + 1) (i + 1) := stepB a0 b0 c0 d0
        exact stepC c (gf (j + 1)).2 (gf (j + 2)).1 hBj (ff j).1 (ff (j + 1)).2
/-- at the price of the m-th stretch m stretches are best -/
theorem conc_best {a : Nat → Int} (hc : ∀ k, a k + a (k + 2) ≤ 2 * a (k + 1)) (m : Nat) {p : Int} (hp : p = a (m + 1) - a m) (k : Nat) : a k - p * k ≤ a m - p * m := by
  have dn : ∀ j i, a (i + j + 1) - a (i + j) ≤ a (i + 1) - a i := by
    intro j
    induction j with
    | zero => intro i; exact Int.le_refl _
    | succ j ih =>
      intro i
      have h1 := ih i
      have h2 : a (i + j) + a (i + j + 1 + 1) ≤ 2 * a (i + j + 1) := hc (i + j)
      rw [show i + (j + 1) = i + j + 1 by omega]
      omega
  have up : ∀ j, a (m + j) ≤ a m + p * j := by
    intro j
    induction j with
    | zero => simp
    | succ j ih =>
      have h1 := dn j m
      have e : p * ((j + 1 : Nat) : Int) = p * j + p := by rw [Int.natCast_add, Int.mul_add]; simp
      rw [e, show m + (j + 1) = m + j + 1 by omega]
      omega
  have down : ∀ j i, i + j = m → a i + p * j ≤ a m := by
    intro j
    induction j with
    | zero => intro i h; simp at h; subst h; simp
    | succ j ih =>
      intro i h
      have h1 := dn (m - i) i
      have h2 := ih (i + 1) (by omega)
      have e : p * ((j + 1 : Nat) : Int) = p * j + p := by rw [Int.natCast_add, Int.mul_add]; simp
      rw [show i + (m - i) = m by omega] at h1
      rw [e]
      omega
  rcases Nat.le_total k m with h | h
  · have := down (m - k) k (by omega)
    have e : p * (m : Int) = p * k + p * ((m - k : Nat) : Int) := by rw [← Int.mul_add]; congr 1; omega
    rw [e]
    omega
  · have := up (k - m)
    rw [show m + (k - m) = k by omega] at this
    have e : p * (k : Int) = p * m + p * ((k - m : Nat) : Int) := by rw [← Int.mul_add]; congr 1; omega
    rw [e]
    omega
/-! ### bounds at a price -/
/-- what stands outs at i, and ins before i -/
def bnd (ns : List Int) (p : Int) : Nat → Int × Int
  | 0 => (0, 0)
  | i + 1 => (max (bnd ns p i).1 (if i = 0 then (bnd ns p i).1 - p + nth ns i else max ((bnd ns p i).1 - p + nth ns i) ((bnd ns p i).2 + nth ns i)),
      if i = 0 then (bnd ns p i).1 - p + nth ns i else max ((bnd ns p i).1 - p + nth ns i) ((bnd ns p i).2 + nth ns i))
def outsTo (ns : List Int) (p : Int) (n : Nat) : List Int := (List.range (n + 1)).map fun i => (bnd ns p i).1
def insTo (ns : List Int) (p : Int) (n : Nat) : List Int := (List.range n).map fun i => (bnd ns p (i + 1)).2
theorem outsTo_length (ns : List Int) (p : Int) (n : Nat) : (outsTo ns p n).length = n + 1 := by simp [outsTo]
theorem insTo_length (ns : List Int) (p : Int) (n : Nat) : (insTo ns p n).length = n := by simp [insTo]
theorem nth_outsTo (ns : List Int) (p : Int) {n i : Nat} (h : i ≤ n) : nth (outsTo ns p n) i = (bnd ns p i).1 := by
  have : i < n + 1 := by omega
  simp [nth, outsTo, this]
theorem nth_insTo (ns : List Int) (p : Int) {n i : Nat} (h : i < n) : nth (insTo ns p n) i = (bnd ns p (i + 1)).2 := by
  simp [nth, insTo, h]
theorem outsTo_succ (ns : List Int) (p : Int) (n : Nat) : outsTo ns p (n + 1) = outsTo ns p n ++ [(bnd ns p (n + 1)).1] := by
  unfold outsTo
  rw [List.range_succ, List.map_append]
  rfl
theorem insTo_succ (ns : List Int) (p : Int) (n : Nat) : insTo ns p (n + 1) = insTo ns p n ++ [(bnd ns p (n + 1)).2] := by
  unfold insTo
  rw [List.range_succ, List.map_append]
  rfl
/-- each bound follows from those before -/
def GoodAt (ns : List Int) (p : Int) (outs ins : List Int) (i : Nat) : Prop :=
  nth outs i - p + nth ns i ≤ nth ins i ∧ nth outs i ≤ nth outs ((i : Int) + 1) ∧ nth ins i ≤ nth outs ((i : Int) + 1) ∧ (0 < i → nth ins ((i : Int) - 1) + nth ns i ≤ nth ins i)
instance (ns : List Int) (p : Int) (outs ins : List Int) (i : Nat) : Decidable (GoodAt ns p outs ins i) := by unfold GoodAt; infer_instance
def Bounds (ns : List Int) (p : Int) (outs ins : List Int) : Prop := 0 ≤ nth outs 0 ∧ ∀ i : Nat, i < ns.length → GoodAt ns p outs ins i
instance (ns : List Int) (p : Int) (outs ins : List Int) : Decidable (Bounds ns p outs ins) := by unfold Bounds; infer_instance
theorem bounds_good (ns : List Int) (p : Int) : Bounds ns p (outsTo ns p ns.length) (insTo ns p ns.length) := by
  refine ⟨?_, fun i hi => ?_⟩
  · have := nth_outsTo ns p (n := ns.length) (i := 0) (by omega)
    rw [show (0 : Int) = ((0 : Nat) : Int) from rfl, this]
    exact Int.le_refl _
  · have o0 := nth_outsTo ns p (n := ns.length) (i := i) (by omega)
    have o1 := nth_outsTo ns p (n := ns.length) (i := i + 1) (by omega)
    have i0 := nth_insTo ns p (n := ns.length) (i := i) hi
    have e : ((i + 1 : Nat) : Int) = (i : Int) + 1 := rfl
    rw [e] at o1
    unfold GoodAt
    rw [o0, o1, i0]
    have b1 : (bnd ns p (i + 1)).2 = if i = 0 then (bnd ns p i).1 - p + nth ns i else max ((bnd ns p i).1 - p + nth ns i) ((bnd ns p i).2 + nth ns i) := rfl
    have b2 : (bnd ns p (i + 1)).1 = max (bnd ns p i).1 (bnd ns p (i + 1)).2 := rfl
    refine ⟨by rw [b1]; split <;> omega, by rw [b2]; omega, by rw [b2]; omega, fun h0 => ?_⟩
    obtain ⟨j, rfl⟩ : ∃ j, i = j + 1 := ⟨i - 1, by omega⟩
    have ij := nth_insTo ns p (n := ns.length) (i := j) (by omega)
    rw [show ((j + 1 : Nat) : Int) - 1 = (j : Int) by omega, ij, b1, if_neg (by omega)]
    omega
/-- the bounds lie on what so many stretches have -/
theorem bnd_le (ns : List Int) (p : Int) : ∀ i, (∃ k : Nat, (bnd ns p i).1 ≤ sevF ns k i - p * k) ∧ (0 < i → ∃ k : Nat, (bnd ns p i).2 ≤ sevG ns k i - p * (k + 1))
  | 0 => ⟨⟨0, by simp [bnd, sevF_zero]⟩, fun h => by omega⟩
  | i + 1 => by
    obtain ⟨⟨k1, h1⟩, h2⟩ := bnd_le ns p i
    have b1 : (bnd ns p (i + 1)).2 = if i = 0 then (bnd ns p i).1 - p + nth ns i else max ((bnd ns p i).1 - p + nth ns i) ((bnd ns p i).2 + nth ns i) := rfl
    have b2 : (bnd ns p (i + 1)).1 = max (bnd ns p i).1 (bnd ns p (i + 1)).2 := rfl
    have ea : (bnd ns p i).1 - p + nth ns i ≤ sevG ns k1 (i + 1) - p * (k1 + 1) := by
      rw [sevG_succ, Int.mul_add, Int.mul_one]
      omega
    have h3 : ∃ k : Nat, (bnd ns p (i + 1)).2 ≤ sevG ns k (i + 1) - p * (k + 1) := by
      by_cases c : i = 0
      · rw [b1, if_pos c]
        exact ⟨k1, ea⟩
      · obtain ⟨k2, h2⟩ := h2 (by omega)
        have eb : (bnd ns p i).2 + nth ns i ≤ sevG ns k2 (i + 1) - p * (k2 + 1) := by
          rw [sevG_succ]
          omega
        rw [b1, if_neg c]
        rcases Int.le_total ((bnd ns p i).1 - p + nth ns i) ((bnd ns p i).2 + nth ns i) with q | q
        · exact ⟨k2, by omega⟩
        · exact ⟨k1, by omega⟩
    refine ⟨?_, fun _ => h3⟩
    obtain ⟨k3, h3⟩ := h3
    rw [b2]
    rcases Int.le_total (bnd ns p i).1 (bnd ns p (i + 1)).2 with q | q
    · refine ⟨k3 + 1, ?_⟩
      have := sevF_succ ns k3 i
      rw [Int.natCast_add]
      show _ ≤ _ - p * ((k3 : Int) + 1)
      omega
    · refine ⟨k1, ?_⟩
      have := sevF_mono_i ns k1 i
      omega
/-- how many are counted -/
def sevM (ns : List Int) (many : Int) : Nat := (min many ns.length).toNat
def sevP (ns : List Int) (m : Nat) : Int := sevF ns (m + 1) ns.length - sevF ns m ns.length
theorem sevP_nonneg (ns : List Int) (m : Nat) : 0 ≤ sevP ns m := by
  have := (sev_mono_k ns ns.length m).1
  unfold sevP
  omega
theorem sev_told (ns : List Int) {many : Int} (h0 : 0 ≤ many) {m : Nat} (hm : m = sevM ns many) : nth (outsTo ns (sevP ns m) ns.length) ns.length + sevP ns m * many ≤ sevF ns m ns.length := by
  rw [nth_outsTo ns _ (Nat.le_refl _)]
  obtain ⟨k, h⟩ := (bnd_le ns (sevP ns m) ns.length).1
  have h2 := conc_best (a := fun k => sevF ns k ns.length) (fun k => (sev_conc ns ns.length k).1) m (p := sevP ns m) rfl k
  have h2' : sevF ns k ns.length - sevP ns m * k ≤ sevF ns m ns.length - sevP ns m * m := h2
  have h3 : sevP ns m * many = sevP ns m * m := by
    by_cases c : many ≤ ns.length
    · have : (m : Int) = many := by rw [hm]; unfold sevM; omega
      rw [this]
    · have e : m = ns.length := by rw [hm]; unfold sevM; omega
      have : sevP ns m = 0 := by
        unfold sevP
        rw [(sev_flat ns ns.length m (by omega)).1]
        omega
      rw [this]
      simp
  omega
/-! ### where stretches begin -/
def BegAt (ns : List Int) (b : Nat → Int) (gs : List Int) (i : Nat) : Prop :=
  (nth gs i = -1 ∧ bestF ns b i = bestF ns b (i - 1)) ∨ ∃ s : Nat, nth gs i = s ∧ s < i ∧ bestF ns b i = b s + (pre ns i - pre ns s)
/-- one turn of added: i turns are done -/
structure AddTo (ns : List Int) (b : Nat → Int) (i : Nat) (fs gs : List Int) (run beg : Int) : Prop where
  fs : fs = (List.range (i + 1)).map (bestF ns b)
  gl : gs.length = i + 1
  rn : run = runF ns b i
  bg : 0 < i → ∃ s : Nat, beg = s ∧ s < i ∧ runF ns b i = b s + (pre ns i - pre ns s)
  ga : ∀ j, j ≤ i → BegAt ns b gs j
theorem addTo_zero (ns : List Int) (b : Nat → Int) : AddTo ns b 0 [b 0] [-1] (b 0) 0 :=
  ⟨rfl, rfl, rfl, fun h => by omega, fun j hj => by
    have e : j = 0 := by omega
    subst e
    exact .inl ⟨rfl, rfl⟩⟩
theorem addTo_last {ns fs gs : List Int} {b : Nat → Int} {i : Nat} {run beg : Int} (h : AddTo ns b i fs gs run beg) : nth fs (-1 + (fs.length : Int)) = bestF ns b i := by
  rw [h.fs, List.length_map, List.length_range, show (-1 + ((i + 1 : Nat) : Int)) = (i : Int) by omega]
  simp [nth]
theorem addTo_step {ns fs gs : List Int} {b : Nat → Int} {i : Nat} {run beg run1 beg1 : Int} (h : AddTo ns b i fs gs run beg) (hi : i < ns.length)
    (hc : (run1 = b i ∧ beg1 = i ∧ (i = 0 ∨ run < b i)) ∨ (run1 = run ∧ beg1 = beg ∧ i ≠ 0 ∧ b i ≤ run)) :
    (bestF ns b i < run1 + nth ns i → AddTo ns b (i + 1) (fs ++ [run1 + nth ns i]) (gs ++ [beg1]) (run1 + nth ns i) beg1) ∧
    (¬ bestF ns b i < run1 + nth ns i → AddTo ns b (i + 1) (fs ++ [bestF ns b i]) (gs ++ [-1]) (run1 + nth ns i) beg1) := by
  obtain ⟨hf, hg, hr, hb, ha⟩ := h
  have hrs : runF ns b (i + 1) = max (runF ns b i) (b i) + nth ns i := rfl
  have hbs : bestF ns b (i + 1) = max (bestF ns b i) (runF ns b (i + 1)) := rfl
  have hp := pre_succ hi
  have r1 : run1 + nth ns i = runF ns b (i + 1) := by
    rw [hrs, ← hr]
    rcases hc with ⟨c1, _, c3⟩ | ⟨c1, _, _, c3⟩
    · rcases c3 with c3 | c3
      · subst c3
        rw [c1, hr]
        show b 0 + _ = max (b 0) (b 0) + _
        omega
      · omega
    · omega
  have bg1 : ∃ s : Nat, beg1 = s ∧ s < i + 1 ∧ runF ns b (i + 1) = b s + (pre ns (i + 1) - pre ns s) := by
    rcases hc with ⟨c1, c2, _⟩ | ⟨c1, c2, c3, _⟩
    · exact ⟨i, c2, by omega, by rw [← r1, c1, hp]; omega⟩
    · obtain ⟨s, s1, s2, s3⟩ := hb (by omega)
      exact ⟨s, by rw [c2]; exact s1, by omega, by rw [← r1, c1, hr, s3, hp]; omega⟩
  have gn : ∀ z : Int, ∀ j, j ≤ i → BegAt ns b (gs ++ [z]) j := by
    intro z j hj
    have e : nth (gs ++ [z]) (j : Int) = nth gs j := nth_append_left (by omega) (by omega)
    unfold BegAt
    rw [e]
    exact ha j hj
  have gi : ∀ z : Int, nth (gs ++ [z]) ((i + 1 : Nat) : Int) = z := by
    intro z
    rw [← hg]
    exact nth_append_last
  have fsn : ∀ z : Int, z = bestF ns b (i + 1) → fs ++ [z] = (List.range (i + 1 + 1)).map (bestF ns b) := by
    intro z e
    rw [List.range_succ, List.map_append, ← hf, e]
    rfl
  constructor
  · intro q
    refine ⟨fsn _ (by rw [hbs, ← r1]; omega), by simp [hg], r1, fun _ => bg1, fun j hj => ?_⟩
    by_cases e : j = i + 1
    · subst e
      obtain ⟨s, s1, s2, s3⟩ := bg1
      refine .inr ⟨s, by rw [gi]; exact s1, s2, ?_⟩
      rw [← s3, hbs, ← r1]
      omega
    · exact gn _ j (by omega)
  · intro q
    refine ⟨fsn _ (by rw [hbs, ← r1]; omega), by simp [hg], r1, fun _ => bg1, fun j hj => ?_⟩
    by_cases e : j = i + 1
    · subst e
      refine .inl ⟨gi _, ?_⟩
      show bestF ns b (i + 1) = bestF ns b i
      rw [hbs, ← r1]
      omega
    · exact gn _ j (by omega)
/-! ### stretches one behind the other -/
structure P2 where
  ad : Addr
  f : Int
  c : Int
def Pairs2 (H : Hp) (ps : List P2) : Prop := ∀ z ∈ ps, H z.ad = some (.tup [.int z.f, .int z.c])
def refs2 (ps : List P2) : List V := ps.map fun z => V.ref z.ad
theorem refs2_length (ps : List P2) : (refs2 ps).length = ps.length := by simp [refs2]
theorem Pairs2.same {H H' : Hp} {ps : List P2} (h : Pairs2 H ps) (s : Same H H') : Pairs2 H' ps := fun z hz => s _ _ (h z hz)
theorem refs2_at {ps : List P2} {i : Nat} {x : V} (h : (refs2 ps)[i]? = some x) : ∃ (hi : i < ps.length), x = .ref ps[i].ad := by
  unfold refs2 at h
  rw [List.getElem?_map] at h
  by_cases hi : i < ps.length
  · rw [List.getElem?_eq_getElem hi] at h
    exact ⟨hi, (Option.some.inj h).symm⟩
  · rw [List.getElem?_eq_none (by omega)] at h
    cases h
/-- ordered, in their places -/
def Fits (n : Int) : Int → List P2 → Prop
  | _, [] => True
  | p, z :: r => p ≤ z.f ∧ IsThere z.f z.c n ∧ Fits n (z.f + z.c) r
def fitsDec (n : Int) : (p : Int) → (ps : List P2) → Decidable (Fits n p ps)
  | _, [] => .isTrue trivial
  | p, z :: r => by
    have := fitsDec n (z.f + z.c) r
    unfold Fits
    infer_instance
instance (n p : Int) (ps : List P2) : Decidable (Fits n p ps) := fitsDec n p ps
def sumS (ns : List Int) (ps : List P2) : Int := (ps.map fun z => segS ns z.f z.c).sum
theorem fits_drop {n p : Int} {ps : List P2} (h : Fits n p ps) {i : Nat} (hi : i < ps.length) : ∃ q, Fits n q (ps.drop i) := by
  induction ps generalizing p i with
  | nil => cases hi
  | cons z r ih =>
    cases i with
    | zero => exact ⟨p, h⟩
    | succ i =>
      rw [List.length_cons] at hi
      exact ih h.2.2 (by omega)
theorem fits_mem {n : Int} : ∀ {p : Int} {ps : List P2}, Fits n p ps → ∀ z ∈ ps, IsThere z.f z.c n
  | _, z :: r, h, y, hy => by
    rcases List.mem_cons.mp hy with e | e
    · subst e; exact h.2.1
    · exact fits_mem h.2.2 y e
/-- what several shows -/
structure SevShow (ns : List Int) (many : Int) (ps : List P2) (p : Int) (outs ins : List Int) : Prop where
  ln : (ps.length : Int) ≤ many
  p0 : 0 ≤ p
  ol : outs.length = ns.length + 1
  il : ins.length = ns.length
  ft : Fits ns.length 0 ps
  bd : Bounds ns p outs ins
  td : nth outs ns.length + p * many ≤ sumS ns ps
theorem sevShow_iff (ns : List Int) (many : Int) (ps : List P2) (p : Int) (outs ins : List Int) : SevShow ns many ps p outs ins ↔
    (((ps.length : Int) ≤ many ∧ 0 ≤ p ∧ outs.length = ns.length + 1 ∧ ins.length = ns.length) ∧ Fits ns.length 0 ps ∧ Bounds ns p outs ins ∧ nth outs ns.length + p * many ≤ sumS ns ps) :=
  ⟨fun ⟨a, b, c, d, e, f, g⟩ => ⟨⟨a, b, c, d⟩, e, f, g⟩, fun ⟨⟨a, b, c, d⟩, e, f, g⟩ => ⟨a, b, c, d, e, f, g⟩⟩
instance (ns : List Int) (many : Int) (ps : List P2) (p : Int) (outs ins : List Int) : Decidable (SevShow ns many ps p outs ins) := decidable_of_iff' _ (sevShow_iff ns many ps p outs ins)
/-- one turn of stretches_of -/
structure BackTo (ns : List Int) (m at' level : Nat) (ps : List P2) : Prop where
  an : at' ≤ ns.length
  ln : ps.length + level ≤ m
  ft : Fits ns.length at' ps.reverse
  sm : sumS ns ps + sevF ns level at' = sevF ns m ns.length
theorem backTo_zero (ns : List Int) (m : Nat) : BackTo ns m ns.length m [] := ⟨Nat.le_refl _, by simp, trivial, by simp [sumS]⟩
theorem fits_weak {n p q : Int} {ps : List P2} (h : Fits n p ps) (hq : q ≤ p) : Fits n q ps := by
  cases ps with
  | nil => trivial
  | cons z r => exact ⟨by have := h.1; omega, h.2⟩
theorem backTo_skip {ns : List Int} {m at' level : Nat} {ps : List P2} (h : BackTo ns m (at' + 1) level ps) (e : sevF ns level (at' + 1) = sevF ns level at') : BackTo ns m at' level ps :=
  ⟨by have := h.an; omega, h.ln, fits_weak h.ft (by omega), by rw [← e]; exact h.sm⟩
theorem backTo_take {ns : List Int} {m at' level s : Nat} {ps : List P2} (h : BackTo ns m at' (level + 1) ps) (hs : s < at') (e : sevF ns (level + 1) at' = sevF ns level s + (pre ns at' - pre ns s)) (T : Addr) :
    BackTo ns m s level (ps ++ [⟨T, s, (at' : Int) - s⟩]) := by
  obtain ⟨an, ln, ft, sm⟩ := h
  refine ⟨by omega, by simp; omega, ?_, ?_⟩
  · rw [List.reverse_append, List.reverse_singleton, List.singleton_append]
    refine ⟨Int.le_refl _, ⟨by show 0 ≤ (s : Int); omega, by show 1 ≤ (at' : Int) - s; omega, by show (s : Int) + ((at' : Int) - s) ≤ _; omega⟩, ?_⟩
    show Fits _ ((s : Int) + ((at' : Int) - s)) _
    rw [show (s : Int) + ((at' : Int) - s) = at' by omega]
    exact ft
  · have e2 : segS ns s ((at' : Int) - s) = pre ns at' - pre ns s := by
      rw [segS_pre ns (by omega) (by omega) (by omega), show (s : Int) + ((at' : Int) - s) = at' by omega, nth_psums ns an, nth_psums ns (by omega)]
    have e3 : sumS ns (ps ++ [⟨T, s, (at' : Int) - s⟩]) = sumS ns ps + (pre ns at' - pre ns s) := by
      unfold sumS
      rw [List.map_append, List.sum_append]
      simp [e2]
    rw [e3]
    omega
theorem sumS_rev (ns : List Int) (ps : List P2) : sumS ns ps.reverse = sumS ns ps := by
  unfold sumS
  rw [List.map_reverse, List.sum_reverse]
/-- the answer of several -/
structure SevOf (ns : List Int) (many : Int) (ps : List P2) (p : Int) (outs ins : List Int) : Prop where
  sh : SevShow ns many ps p outs ins
theorem sev_answer {ns : List Int} {many : Int} (h0 : 0 ≤ many) {m : Nat} (hm : m = sevM ns many) {ps : List P2} {at' level : Nat} (B : BackTo ns m at' level ps) (he : level = 0 ∨ at' = 0) :
    SevShow ns many ps.reverse (sevP ns m) (outsTo ns (sevP ns m) ns.length) (insTo ns (sevP ns m) ns.length) := by
  obtain ⟨an, ln, ft, sm⟩ := B
  have hz : sevF ns level at' = 0 := by
    rcases he with e | e
    · subst e; rfl
    · subst e; exact sevF_at0 ns level
  have hmm : (m : Int) ≤ many := by rw [hm]; unfold sevM; omega
  refine ⟨by rw [List.length_reverse]; omega, sevP_nonneg ns m, outsTo_length _ _ _, insTo_length _ _ _, fits_weak ft (by omega), bounds_good ns _, ?_⟩
  rw [sumS_rev]
  have := sev_told ns h0 hm
  omega
theorem sumS_take (ns : List Int) {ps : List P2} {i : Nat} (hi : i < ps.length) : sumS ns (ps.take (i + 1)) = sumS ns (ps.take i) + segS ns ps[i].f ps[i].c := by
  unfold sumS
  rw [List.take_succ_eq_append_getElem hi, List.map_append, List.sum_append]
  simp
theorem drop_cons2 {ps : List P2} {i : Nat} (hi : i < ps.length) : ps.drop i = ps[i] :: ps.drop (i + 1) := List.drop_eq_getElem_cons hi
theorem fits_turn {n q : Int} {ps : List P2} {i : Nat} (hi : i < ps.length) : Fits n q (ps.drop i) ↔ (q ≤ ps[i].f ∧ IsThere ps[i].f ps[i].c n ∧ Fits n (ps[i].f + ps[i].c) (ps.drop (i + 1))) := by
  rw [drop_cons2 hi]
  exact Iff.rfl
theorem pairs2_new {H : Hp} {ps : List P2} {p : Addr} {o : HO} (h : Pairs2 H ps) (n : H p = none) : Pairs2 (upd H p o) ps := fun z hz => at_new (h z hz) n
theorem pairs2_mut {H : Hp} {ps : List P2} {p : Addr} {o : HO} {xs : List V} (h : Pairs2 H ps) (hp : H p = some (.lst xs)) : Pairs2 (upd H p o) ps := fun z hz => by
  rw [upd_ne (ne_of (h z hz) hp (by intro e; cases e))]
  exact h z hz
theorem pairs2_rev {H : Hp} {ps : List P2} (h : Pairs2 H ps) : Pairs2 H ps.reverse := fun z hz => h z (by simpa using hz)
theorem refs2_rev (ps : List P2) : refs2 ps.reverse = (refs2 ps).reverse := by simp [refs2]
theorem refs2_snoc (ps : List P2) (z : P2) : refs2 (ps ++ [z]) = refs2 ps ++ [.ref z.ad] := by simp [refs2]
/-! ### levels -/
structure L4 where
  ad : Addr
  fa : Addr
  ga : Addr
  gs : List Int
def refsL (ls : List L4) : List V := ls.map fun z => V.ref z.ad
theorem refsL_length (ls : List L4) : (refsL ls).length = ls.length := by simp [refsL]
theorem refsL_snoc (ls : List L4) (z : L4) : refsL (ls ++ [z]) = refsL ls ++ [.ref z.ad] := by simp [refsL]
theorem refsL_get {ls : List L4} {i : Nat} (hi : i < ls.length) : (refsL ls)[i]? = some (.ref ls[i].ad) := by simp [refsL, hi]
theorem atI_refsL {ls : List L4} {i : Nat} (hi : i < ls.length) {z : Int} (e : z = i) : atI (refsL ls) z = some (.ref ls[i].ad) := by
  subst e
  exact atI_nat (refsL_get hi)
theorem atI_refsLneg {ls : List L4} {d : Nat} {i : Nat} (hi : i < ls.length) {z : Int} (e : z + ls.length = i) (hz : z < 0) : atI (refsL ls) z = some (.ref ls[i].ad) := by
  unfold atI ixN
  rw [if_neg (by omega), if_pos (by rw [refsL_length]; omega), refsL_length]
  show (refsL ls)[(z + (ls.length : Int)).toNat]? = _
  rw [e]
  exact refsL_get hi
def tabF (ns : List Int) (b : Nat → Int) : List Int := (List.range (ns.length + 1)).map b
theorem tabF_length (ns : List Int) (b : Nat → Int) : (tabF ns b).length = ns.length + 1 := by simp [tabF]
theorem nth_tabF (ns : List Int) (b : Nat → Int) {i : Nat} (h : i ≤ ns.length) : nth (tabF ns b) i = b i := by
  have : i < ns.length + 1 := by omega
  simp [nth, tabF, this]
def LvAt (H : Hp) (ns : List Int) (k : Nat) (z : L4) : Prop := H z.ad = some (.tup [.ref z.fa, .ref z.ga]) ∧ H z.fa = some (.lst ((tabF ns (sevF ns k)).map V.int)) ∧ H z.ga = some (.lst (z.gs.map V.int)) ∧
  (0 < k → z.gs.length = ns.length + 1 ∧ ∀ j, j ≤ ns.length → BegAt ns (sevF ns (k - 1)) z.gs j)
def Levels (H : Hp) (ns : List Int) (ls : List L4) : Prop := ∀ k, (h : k < ls.length) → LvAt H ns k ls[k]
theorem LvAt.same {H H' : Hp} {ns : List Int} {k : Nat} {z : L4} (h : LvAt H ns k z) (s : Same H H') : LvAt H' ns k z := ⟨s _ _ h.1, s _ _ h.2.1, s _ _ h.2.2.1, h.2.2.2⟩
theorem Levels.same {H H' : Hp} {ns : List Int} {ls : List L4} (h : Levels H ns ls) (s : Same H H') : Levels H' ns ls := fun k hk => (h k hk).same s
theorem Levels.mut {H : Hp} {ns : List Int} {ls : List L4} {p : Addr} {o : HO} (h : Levels H ns ls) (hn : ∀ k, (hk : k < ls.length) → ls[k].ad ≠ p ∧ ls[k].fa ≠ p ∧ ls[k].ga ≠ p) : Levels (upd H p o) ns ls := fun k hk => by
  obtain ⟨a, b, c, d⟩ := h k hk
  obtain ⟨n1, n2, n3⟩ := hn k hk
  exact ⟨(upd_ne n1).trans a, (upd_ne n2).trans b, (upd_ne n3).trans c, d⟩
theorem Levels.snoc {H : Hp} {ns : List Int} {ls : List L4} {z : L4} (h : Levels H ns ls) (hz : LvAt H ns ls.length z) : Levels H ns (ls ++ [z]) := fun k hk => by
  by_cases e : k < ls.length
  · rw [List.getElem_append_left e]
    exact h k e
  · have : k = ls.length := by rw [List.length_append, List.length_singleton] at hk; omega
    subst this
    rw [List.getElem_append_right (Nat.le_refl _)]
    simpa using hz
theorem Levels.take {H : Hp} {ns : List Int} {ls : List L4} (h : Levels H ns ls) (n : Nat) : Levels H ns (ls.take n) := fun k hk => by
  rw [List.getElem_take]
  exact h k (by rw [List.length_take] at hk; omega)
theorem cutV_but1 (ls : List L4) {n : Nat} (h : ls.length = n + 1) : cutV (refsL ls) none (some (-1)) = refsL (ls.take n) := by
  unfold cutV
  rw [refsL_length, h]
  have e1 : HT.sIx (n + 1) 0 none = 0 := rfl
  have e2 : HT.sIx (n + 1) (n + 1) (some (-1)) = n := by
    show (if (-1 : Int) < 0 then (-1 + ((n + 1 : Nat) : Int)).toNat else min (-1 : Int).toNat (n + 1)) = n
    rw [if_pos (by omega)]
    omega
  rw [e1, e2]
  simp [refsL]
/-! ### while -/
def kWh (P : Nat → L2.St → Hp → Prop) (m : Nat) (t : TS) (D : Ends) (σ : L2.St) : Bool → Hp → Prop := fun b H1 => if b = true then ∃ N : L2.St → Hp → Prop, (∀ σ' H', N σ' H' → ∃ m', m' < m ∧ P m' σ' H') ∧ t { D with nx := N, ct := N, bk := D.nx } σ H1 else D.nx σ H1
theorem whileC {c : TT} {t : TS} {D : Ends} {σ : L2.St} {H : Hp} (P : Nat → L2.St → Hp → Prop) (m0 : Nat) (h0 : P m0 σ H) (hs : ∀ m σ' H', P m σ' H' → c σ' H' (kWh P m t D σ')) : tWhile c t D σ H :=
  ⟨P, ⟨m0, h0⟩, hs⟩
theorem wp_kWh {P : Nat → L2.St → Hp → Prop} {m : Nat} {t : TS} {D : Ends} {σ : L2.St} {H : Hp} {b : Bool} (h1 : b = true → t { D with nx := fun σ2 H2 => ∃ m', m' < m ∧ P m' σ2 H2, ct := fun σ2 H2 => ∃ m', m' < m ∧ P m' σ2 H2, bk := D.nx } σ H) (h2 : b = false → D.nx σ H) : kWh P m t D σ b H := by
  cases b with
  | true => exact ⟨_, fun σ' H' z => z, h1 rfl⟩
  | false => exact h2 rfl
theorem wp_gSub {to ti : TE} {t : TSet} {v : V} {σ : L2.St} {H : Hp} {Q : L2.St → Hp → Prop} (q : to σ H fun o H1 => ti σ H1 fun i H2 => t o i v H2 fun H3 => Q σ H3) : gSub to ti t v σ H Q := q
theorem nth_snoc_last (xs : List Int) (y : Int) : nth (xs ++ [y]) (-1 + ((xs ++ [y]).length : Int)) = y := by
  rw [List.length_append, List.length_singleton, show (-1 + ((xs.length + 1 : Nat) : Int)) = (xs.length : Int) by omega]
  exact nth_append_last
theorem wp_setLastI {a : Addr} {H : Hp} {xs : List Int} {y z : Int} {k : Hp → Prop} (h : H a = some (.lst ((xs ++ [y]).map V.int))) (q : k (upd H a (.lst ((xs ++ [z]).map V.int)))) : rSetL (.ref a) (.int (-1)) (.int z) H k := by
  refine ⟨a, _, -1, xs.length, rfl, rfl, h, ?_, ?_⟩
  · rw [List.length_map, List.length_append, List.length_singleton]
    unfold ixN
    rw [if_neg (by omega), if_pos (by omega)]
    congr 1
    omega
  · have e : ((xs ++ [y]).map V.int).set xs.length (V.int z) = (xs ++ [z]).map V.int := by
      rw [List.map_append, List.map_append]
      simp
    rw [e]
    exact q
theorem bnd_ins (ns : List Int) (p : Int) (i : Nat) : (bnd ns p (i + 1)).2 = if i = 0 then (bnd ns p i).1 - p + nth ns i else max ((bnd ns p i).1 - p + nth ns i) ((bnd ns p i).2 + nth ns i) := rfl
theorem bnd_outs (ns : List Int) (p : Int) (i : Nat) : (bnd ns p (i + 1)).1 = max (bnd ns p i).1 (bnd ns p (i + 1)).2 := rfl
theorem max_if (i j : Int) : (if j > i then j else i) = max i j := by split <;> omega
theorem wp_join {t : TS} {σ : L2.St} {H : Hp} {c : Bool} {n : L2.St → Hp → Prop} {rt : VK} {bk ct : L2.St → Hp → Prop} (P : Hp → Prop) (h1 : c = true → ∀ n' : L2.St → Hp → Prop, (∀ H', P H' → n' σ H') → t (Ends.mk n' rt bk ct) σ H) (h2 : c = false → P H) (hn : ∀ H', P H' → n σ H') : kIfS t tNext (Ends.mk n rt bk ct) σ c H := by
  cases c with
  | true => exact h1 rfl n hn
  | false => exact hn _ (h2 rfl)
/-- over a list whose items the heap tells, each turn's value by v -/
theorem lcW2 {K : PySem.W.Frag} {H : Hp} {Q : VK} {te : TE} {σ : L2.St} {J : It} {n : Nat} {G : Hp → Prop} {X : Nat → V} {g : TG} {ws : List Nat} {σi : Nat → L2.St} (w : Walk J n G (fun i H x H' => H' = H ∧ x = X i)) (v : Nat → V) (hn : n ≤ 100000)
    (hG : ∀ H', Same H H' → G H') (hg : ∀ i H' k, i < n → Same H H' → k (σi i) H' → g (X i) (wipe σ ws) H' k) (hw : ∀ i, wipe (σi i) ws = wipe σ ws)
    (he : ∀ i H', i < n → Same H H' → ∀ Q' : VK, (∀ H'', Same H' H'' → Q' (v i) H'') → te (σi i) H' Q')
    (q : ∀ p H', H p = none → Same H H' → H' p = some (.lst ((List.range n).map v)) → Q (.ref p) H') : kLc g tYes te ws σ Q J H := by
  intro D hD
  refine lc_it w (Qd := fun H' => Q (.ref D) H') (fun i H' => Same H H' ∧ H' D = some (.lst ((List.range i).map v))) ⟨same_new (Same.refl H) hD, upd_same⟩ (fun i H' _ p => hG H' p.1) ?_ (fun H' p => q D H' hD p.1 p.2)
  rintro i x H1 H2 hi ⟨s1, d1⟩ ⟨rfl, rfl⟩
  refine hg i _ _ hi s1 ⟨hw i, wp_tYes ?_⟩
  rw [if_pos rfl]
  refine he i H2 hi s1 _ fun H4 s4 => ⟨_, s4 _ _ d1, szl (by rw [List.length_map, List.length_range]; omega), same_mut (s1.trans s4) hD, ?_⟩
  rw [List.range_succ, List.map_append]
  exact upd_same
theorem walkP {K : PySem.W.Frag} {a : Addr} {ps : List P2} : Walk (Itl K a) ps.length (fun H => SqL K H a (refs2 ps)) (fun i H x H' => H' = H ∧ x = .ref (ps.getD i ⟨0, 0, 0⟩).ad) := by
  have w := walk_list (K := K) (a := a) (xs := refs2 ps)
  rw [refs2_length] at w
  refine w.mono (fun _ h => h) fun i H x H' hi _ y => ⟨y.1, ?_⟩
  obtain ⟨_, e⟩ := refs2_at y.2
  rw [e]
  simp [hi]
theorem sumS_list (ns : List Int) (ps : List P2) : (List.range ps.length).map (fun i => V.int (segS ns (ps.getD i ⟨0, 0, 0⟩).f (ps.getD i ⟨0, 0, 0⟩).c)) = (ps.map fun z => segS ns z.f z.c).map V.int := by
  apply List.ext_getElem
  · simp
  · intro i h1 h2
    simp at h1
    simp [h1]
end Bs

namespace Bs
open PySem L2
def sp_Around_init (_ : PySem.W.Frag) (cs : Cs) : Sp := fun vs H Q _ => ∃ (p dx a b : Addr) (f m : Int) (ns ms : List Int), vs = [.ref p, .int f, .int m, .ref a, .ref b] ∧ H p = some (.ins cs.Around dx []) ∧ H a = some (.lst (ns.map V.int)) ∧ H b = some (.lst (ms.map V.int)) ∧
  ∀ l t H', H l = none → H t = none → l ≠ t → (∀ b o, H b = some o → b ≠ p → H' b = some o) → H' p = some (.ins cs.Around dx (fAround f m l t)) → H' l = some (.lst (ns.map V.int)) → H' t = some (.lst (ms.map V.int)) → Q .non H'
theorem len_Around_init {K : PySem.W.Frag} {cs : Cs} {vs : List V} {H : Hp} {Q : VK} {E : XK} (h : sp_Around_init K cs vs H Q E) : vs.length = 5 := by
  obtain ⟨_, _, _, _, _, _, _, _, rfl, _⟩ := h; rfl
theorem make_Around {K : PySem.W.Frag} {cs : Cs} {H : Hp} {Q : VK} {E : XK} {a b : Addr} {f m : Int} {ns ms : List Int} (ha : H a = some (.lst (ns.map V.int))) (hb : H b = some (.lst (ms.map V.int)))
    (q : ∀ x dx l t H', H x = none → H l = none → H t = none → l ≠ t → Same H H' → H' x = some (.ins cs.Around dx (fAround f m l t)) → H' l = some (.lst (ns.map V.int)) → H' t = some (.lst (ms.map V.int)) → Q (.ref x) H') : kMake cs.Around (sp_Around_init K cs) [] E Q [.int f, .int m, .ref a, .ref b] H := by
  refine wp_kMake fun x dx nx nd ne => ?_
  have fr : ∀ l, (upd (upd H dx (.own x)) x (.ins cs.Around dx [])) l = none → H l = none := fun l nl => by
    by_cases e : l = x
    · rw [e]; exact nx
    · by_cases e2 : l = dx
      · rw [e2]; exact nd
      · rw [upd_ne e, upd_ne e2] at nl
        exact nl
  refine ⟨x, dx, a, b, f, m, ns, ms, rfl, upd_same, at_new (at_new ha nd) (free_upd nx (Ne.symm ne)), at_new (at_new hb nd) (free_upd nx (Ne.symm ne)), fun l t H' nl nt nlt keep hx hl ht => ⟨rfl, ?_⟩⟩
  exact q x dx l t H' nx (fr l nl) (fr t nt) nlt (same_make nx nd keep) hx hl ht
def sp_is_number_k08 (_ : PySem.W.Frag) (_ : Cs) : Sp := fun vs H Q _ => ∃ v : V, vs = [v] ∧ ((∃ i : Int, v = .int i ∧ Q (.bl true) H) ∨ (NotNum H v ∧ Q (.bl false) H))
theorem len_is_number_k08 {K : PySem.W.Frag} {cs : Cs} {vs : List V} {H : Hp} {Q : VK} {E : XK} (h : sp_is_number_k08 K cs vs H Q E) : vs.length = 1 := by
  obtain ⟨_, rfl, _⟩ := h; rfl
def sp_asked_least_k08 (_ : PySem.W.Frag) (cs : Cs) : Sp := fun vs H Q E => ∃ (a : Addr) (ns : List Int) (v : V), vs = [.ref a, v] ∧ H a = some (.lst (ns.map V.int)) ∧
  ((∃ i : Int, v = .int i ∧ 1 ≤ i ∧ i ≤ ns.length ∧ Q .non H) ∨ (((∃ i : Int, v = .int i ∧ ¬ (1 ≤ i ∧ i ≤ ns.length)) ∨ NotNum H v) ∧ E (.ref cs.BadLeast) none H))
theorem len_asked_least_k08 {K : PySem.W.Frag} {cs : Cs} {vs : List V} {H : Hp} {Q : VK} {E : XK} (h : sp_asked_least_k08 K cs vs H Q E) : vs.length = 2 := by
  obtain ⟨_, _, _, rfl, _⟩ := h; rfl
def BadOne (H : Hp) (x : V) : Prop := (∃ i : Int, x = .int i ∧ ¬ (-1000000 ≤ i ∧ i ≤ 1000000)) ∨ x = .non ∨ (∃ b, x = .bl b) ∨ ∃ s, x = .str s
theorem BadOne.ok {H : Hp} {x : V} (h : BadOne H x) : okV x = false := by
  rcases h with ⟨i, rfl, h⟩ | rfl | ⟨b, rfl⟩ | ⟨s, rfl⟩
  · show (decide (-1000000 ≤ i) && decide (i ≤ 1000000)) = false
    simp
    omega
  · rfl
  · rfl
  · rfl
def BadRowV (H : Hp) (v : V) : Prop := v = .non ∨ (∃ s, v = .str s) ∨ (∃ i, v = .int i) ∨ (∃ a xs, v = .ref a ∧ H a = some (.tup xs)) ∨
  ∃ (a : Addr) (ns : List Int) (x : V), v = .ref a ∧ H a = some (.lst (ns.map V.int ++ [x])) ∧ ns.length ≤ 1000 ∧ BadOne H x
def sp_asked_row_k08 (_ : PySem.W.Frag) (cs : Cs) : Sp := fun vs H Q E => ∃ v : V, vs = [v] ∧ ((∃ (a : Addr) (ns : List Int), v = .ref a ∧ H a = some (.lst (ns.map V.int)) ∧ IsRow ns ∧ ns.length ≤ 1000 ∧ RetV H Q .non) ∨ (BadRowV H v ∧ ∀ H', Same H H' → E (.ref cs.BadRow) none H'))
theorem len_asked_row_k08 {K : PySem.W.Frag} {cs : Cs} {vs : List V} {H : Hp} {Q : VK} {E : XK} (h : sp_asked_row_k08 K cs vs H Q E) : vs.length = 1 := by
  obtain ⟨_, rfl, _⟩ := h; rfl
def sp_summed (_ : PySem.W.Frag) (_ : Cs) : Sp := fun vs H Q _ => ∃ (a : Addr) (ns : List Int), vs = [.ref a] ∧ H a = some (.lst (ns.map V.int)) ∧ ns.length ≤ 1000 ∧ RetI H Q (psums ns)
theorem len_summed {K : PySem.W.Frag} {cs : Cs} {vs : List V} {H : Hp} {Q : VK} {E : XK} (h : sp_summed K cs vs H Q E) : vs.length = 1 := by
  obtain ⟨_, _, rfl, _⟩ := h; rfl
def sp_best_of (_ : PySem.W.Frag) (_ : Cs) : Sp := fun vs H Q _ => ∃ (a : Addr) (ns : List Int) (l : Int), vs = [.ref a, .int l] ∧ H a = some (.lst (ns.map V.int)) ∧ 1 ≤ l ∧ l ≤ ns.length ∧ ns.length ≤ 1000 ∧
  ∀ (T lw : Addr) (f m : Int) (ls : List Int) (H' : Hp), BestOf ns l f m ls → H lw = none → Same H H' → H' T = some (.tup [.int f, .int m, .ref lw]) → H' lw = some (.lst (ls.map V.int)) → Q (.ref T) H'
theorem len_best_of {K : PySem.W.Frag} {cs : Cs} {vs : List V} {H : Hp} {Q : VK} {E : XK} (h : sp_best_of K cs vs H Q E) : vs.length = 2 := by
  obtain ⟨_, _, _, rfl, _⟩ := h; rfl
def sp_around (_ : PySem.W.Frag) (cs : Cs) : Sp := fun vs H Q _ => ∃ (a : Addr) (ns : List Int), vs = [.ref a] ∧ H a = some (.lst (ns.map V.int)) ∧ IsRow ns ∧ 1 ≤ ns.length ∧ ns.length ≤ 1000 ∧
  ∀ (x dx lw tp : Addr) (f m : Int) (ls ts : List Int) (H' : Hp), AroundOf ns f m ls ts → H x = none → H lw = none → H tp = none → lw ≠ tp → Same H H' → H' x = some (.ins cs.Around dx (fAround f m lw tp)) → H' lw = some (.lst (ls.map V.int)) → H' tp = some (.lst (ts.map V.int)) → Q (.ref x) H'
theorem len_around {K : PySem.W.Frag} {cs : Cs} {vs : List V} {H : Hp} {Q : VK} {E : XK} (h : sp_around K cs vs H Q E) : vs.length = 1 := by
  obtain ⟨_, _, rfl, _⟩ := h; rfl
def sp_around_k08 (K : PySem.W.Frag) (cs : Cs) : Sp := fun vs H Q E => sp_around K cs vs H Q E ∨ (∃ v : V, vs = [v] ∧ BadRowV H v ∧ ∀ H', Same H H' → E (.ref cs.BadRow) none H') ∨ (∃ a : Addr, vs = [.ref a] ∧ H a = some (.lst (([] : List Int).map V.int)) ∧ ∀ H', Same H H' → E (.ref cs.BadLeast) none H')
theorem len_around_k08 {K : PySem.W.Frag} {cs : Cs} {vs : List V} {H : Hp} {Q : VK} {E : XK} (h : sp_around_k08 K cs vs H Q E) : vs.length = 1 := by
  rcases h with h | h | h
  · exact len_around h
  · obtain ⟨_, rfl, _⟩ := h; rfl
  · obtain ⟨_, rfl, _⟩ := h; rfl
def sp_Best_init (_ : PySem.W.Frag) (cs : Cs) : Sp := fun vs H Q _ => ∃ (p dx a : Addr) (f m : Int) (ns : List Int), vs = [.ref p, .int f, .int m, .ref a] ∧ H p = some (.ins cs.Best dx []) ∧ H a = some (.lst (ns.map V.int)) ∧
  ∀ l H', H l = none → (∀ b o, H b = some o → b ≠ p → H' b = some o) → H' p = some (.ins cs.Best dx (fBest f m l)) → H' l = some (.lst (ns.map V.int)) → Q .non H'
theorem len_Best_init {K : PySem.W.Frag} {cs : Cs} {vs : List V} {H : Hp} {Q : VK} {E : XK} (h : sp_Best_init K cs vs H Q E) : vs.length = 4 := by
  obtain ⟨_, _, _, _, _, _, rfl, _⟩ := h; rfl
theorem make_Best {K : PySem.W.Frag} {cs : Cs} {H : Hp} {Q : VK} {E : XK} {a : Addr} {f m : Int} {ns : List Int} (ha : H a = some (.lst (ns.map V.int)))
    (q : ∀ x dx l H', H x = none → H l = none → x ≠ l → Same H H' → H' x = some (.ins cs.Best dx (fBest f m l)) → H' l = some (.lst (ns.map V.int)) → Q (.ref x) H') : kMake cs.Best (sp_Best_init K cs) [] E Q [.int f, .int m, .ref a] H := by
  refine wp_kMake fun x dx nx nd ne => ?_
  refine ⟨x, dx, a, f, m, ns, rfl, upd_same, at_new (at_new ha nd) (free_upd nx (Ne.symm ne)), fun l H' nl keep hx hl => ⟨rfl, ?_⟩⟩
  have hxl : x ≠ l := ne_of hx hl (by intro z; cases z)
  refine q x dx l H' nx ?_ hxl (same_make nx nd keep) hx hl
  by_cases e : l = dx
  · subst e
    rw [upd_ne ne, upd_same] at nl
    cases nl
  · rw [upd_ne (Ne.symm hxl), upd_ne e] at nl
    exact nl
def sp_best (_ : PySem.W.Frag) (cs : Cs) : Sp := fun vs H Q _ => ∃ (a : Addr) (ns : List Int) (l : Int), vs = [.ref a, .int l] ∧ H a = some (.lst (ns.map V.int)) ∧ IsRow ns ∧ 1 ≤ l ∧ l ≤ ns.length ∧ ns.length ≤ 1000 ∧
  ∀ (x dx lw : Addr) (f m : Int) (ls : List Int) (H' : Hp), BestOf ns l f m ls → H x = none → H lw = none → x ≠ lw → Same H H' → H' x = some (.ins cs.Best dx (fBest f m lw)) → H' lw = some (.lst (ls.map V.int)) → Q (.ref x) H'
theorem len_best {K : PySem.W.Frag} {cs : Cs} {vs : List V} {H : Hp} {Q : VK} {E : XK} (h : sp_best K cs vs H Q E) : vs.length = 2 := by
  obtain ⟨_, _, _, rfl, _⟩ := h; rfl
def sp_best_k08 (K : PySem.W.Frag) (cs : Cs) : Sp := fun vs H Q E => sp_best K cs vs H Q E ∨ (∃ v w : V, vs = [v, w] ∧ BadRowV H v ∧ ∀ H', Same H H' → E (.ref cs.BadRow) none H') ∨ (∃ (a : Addr) (ns : List Int) (w : V), vs = [.ref a, w] ∧ H a = some (.lst (ns.map V.int)) ∧ IsRow ns ∧ ns.length ≤ 1000 ∧ ((∃ i : Int, w = .int i ∧ ¬ (1 ≤ i ∧ i ≤ ns.length)) ∨ NotNum H w) ∧ ∀ H', Same H H' → E (.ref cs.BadLeast) none H')
theorem len_best_k08 {K : PySem.W.Frag} {cs : Cs} {vs : List V} {H : Hp} {Q : VK} {E : XK} (h : sp_best_k08 K cs vs H Q E) : vs.length = 2 := by
  rcases h with h | h | h
  · exact len_best h
  · obtain ⟨_, _, rfl, _⟩ := h; rfl
  · obtain ⟨_, _, _, rfl, _⟩ := h; rfl
def sp_Exact_init (_ : PySem.W.Frag) (cs : Cs) : Sp := fun vs H Q _ => ∃ (p dx : Addr) (f m : Int), vs = [.ref p, .int f, .int m] ∧ H p = some (.ins cs.Exact dx []) ∧
  ∀ H', (∀ b o, H b = some o → b ≠ p → H' b = some o) → H' p = some (.ins cs.Exact dx (fExact f m)) → Q .non H'
theorem len_Exact_init {K : PySem.W.Frag} {cs : Cs} {vs : List V} {H : Hp} {Q : VK} {E : XK} (h : sp_Exact_init K cs vs H Q E) : vs.length = 3 := by
  obtain ⟨_, _, _, _, rfl, _⟩ := h; rfl
theorem make_Exact {K : PySem.W.Frag} {cs : Cs} {H : Hp} {Q : VK} {E : XK} {f m : Int}
    (q : ∀ x dx H', H x = none → Same H H' → H' x = some (.ins cs.Exact dx (fExact f m)) → Q (.ref x) H') : kMake cs.Exact (sp_Exact_init K cs) [] E Q [.int f, .int m] H := by
  refine wp_kMake fun x dx nx nd ne => ?_
  refine ⟨x, dx, f, m, rfl, upd_same, fun H' keep hx => ⟨rfl, ?_⟩⟩
  exact q x dx H' nx (same_make nx nd keep) hx
def sp_Never_init (_ : PySem.W.Frag) (cs : Cs) : Sp := fun vs H Q _ => ∃ (p dx a : Addr) (xs : List V), vs = [.ref p, .ref a] ∧ H p = some (.ins cs.Never dx []) ∧ H a = some (.lst xs) ∧
  ∀ t H', H t = none → (∀ b o, H b = some o → b ≠ p → H' b = some o) → H' p = some (.ins cs.Never dx (fNever t)) → H' t = some (.lst xs) → Q .non H'
theorem len_Never_init {K : PySem.W.Frag} {cs : Cs} {vs : List V} {H : Hp} {Q : VK} {E : XK} (h : sp_Never_init K cs vs H Q E) : vs.length = 2 := by
  obtain ⟨_, _, _, _, rfl, _⟩ := h; rfl
theorem make_Never {K : PySem.W.Frag} {cs : Cs} {H : Hp} {Q : VK} {E : XK} {a : Addr} {xs : List V} (ha : H a = some (.lst xs))
    (q : ∀ x dx t H', H x = none → H t = none → Same H H' → H' x = some (.ins cs.Never dx (fNever t)) → H' t = some (.lst xs) → Q (.ref x) H') : kMake cs.Never (sp_Never_init K cs) [] E Q [.ref a] H := by
  refine wp_kMake fun x dx nx nd ne => ?_
  refine ⟨x, dx, a, xs, rfl, upd_same, at_new (at_new ha nd) (free_upd nx (Ne.symm ne)), fun t H' nt keep hx ht => ⟨rfl, ?_⟩⟩
  refine q x dx t H' nx ?_ (same_make nx nd keep) hx ht
  by_cases e : t = x
  · rw [e]; exact nx
  · by_cases e2 : t = dx
    · rw [e2]; exact nd
    · rw [upd_ne e, upd_ne e2] at nt
      exact nt
def sp_asked_total_k08 (_ : PySem.W.Frag) (cs : Cs) : Sp := fun vs H Q E => ∃ v : V, vs = [v] ∧ ((∃ i : Int, v = .int i ∧ Q .non H) ∨ (NotNum H v ∧ E (.ref cs.BadTotal) none H))
theorem len_asked_total_k08 {K : PySem.W.Frag} {cs : Cs} {vs : List V} {H : Hp} {Q : VK} {E : XK} (h : sp_asked_total_k08 K cs vs H Q E) : vs.length = 1 := by
  obtain ⟨_, rfl, _⟩ := h; rfl
def ExactShow (ns : List Int) (t f m : Int) : Prop := IsThere f m ns.length ∧ segS ns f m = t
instance (ns : List Int) (t f m : Int) : Decidable (ExactShow ns t f m) := by unfold ExactShow; infer_instance
def sp_exact (_ : PySem.W.Frag) (cs : Cs) : Sp := fun vs H Q _ => ∃ (a : Addr) (ns : List Int) (t : Int), vs = [.ref a, .int t] ∧ H a = some (.lst (ns.map V.int)) ∧ IsRow ns ∧ ns.length ≤ 900 ∧
  (∀ (x dx : Addr) (f m : Int) (H' : Hp), ExactShow ns t f m → 0 < cntOf ns t → H x = none → Same H H' → H' x = some (.ins cs.Exact dx (fExact f m)) → Q (.ref x) H') ∧
  (∀ (x dx tb : Addr) (rs : List R3) (H' : Hp), neverB ns t rs = true → cntOf ns t = 0 → rs ≠ [] → rs.length ≤ 901 → H x = none → H tb = none → Same H H' → H' x = some (.ins cs.Never dx (fNever tb)) → H' tb = some (.lst (refs3 rs)) → Rows H' rs → (∀ r ∈ rs, r.ad ≠ tb) → Q (.ref x) H')
theorem len_exact {K : PySem.W.Frag} {cs : Cs} {vs : List V} {H : Hp} {Q : VK} {E : XK} (h : sp_exact K cs vs H Q E) : vs.length = 2 := by
  obtain ⟨_, _, _, rfl, _⟩ := h; rfl
theorem kIfPut {σ : L2.St} {H : Hp} {t : TS} {D : Ends} {c : Bool} (h1 : c = true → t D σ H) (h2 : c = false → D.nx σ H) : kIfS t tNext D σ c H := wp_kIfS h1 h2
def sp_exact_k08 (K : PySem.W.Frag) (cs : Cs) : Sp := fun vs H Q E => sp_exact K cs vs H Q E ∨ (∃ v w : V, vs = [v, w] ∧ BadRowV H v ∧ ∀ H', Same H H' → E (.ref cs.BadRow) none H') ∨ (∃ (a : Addr) (ns : List Int) (w : V), vs = [.ref a, w] ∧ H a = some (.lst (ns.map V.int)) ∧ IsRow ns ∧ ns.length ≤ 1000 ∧ NotNum H w ∧ ∀ H', Same H H' → E (.ref cs.BadTotal) none H')
theorem len_exact_k08 {K : PySem.W.Frag} {cs : Cs} {vs : List V} {H : Hp} {Q : VK} {E : XK} (h : sp_exact_k08 K cs vs H Q E) : vs.length = 2 := by
  rcases h with h | h | h
  · exact len_exact h
  · obtain ⟨_, _, rfl, _⟩ := h; rfl
  · obtain ⟨_, _, _, rfl, _⟩ := h; rfl
def sp_how_many (_ : PySem.W.Frag) (_ : Cs) : Sp := fun vs H Q _ => ∃ (a : Addr) (ns : List Int) (t : Int), vs = [.ref a, .int t] ∧ H a = some (.lst (ns.map V.int)) ∧ IsRow ns ∧ ns.length ≤ 1000 ∧ RetV H Q (.int (cntOf ns t))
theorem len_how_many {K : PySem.W.Frag} {cs : Cs} {vs : List V} {H : Hp} {Q : VK} {E : XK} (h : sp_how_many K cs vs H Q E) : vs.length = 2 := by
  obtain ⟨_, _, _, rfl, _⟩ := h; rfl
def sp_how_many_k08 (K : PySem.W.Frag) (cs : Cs) : Sp := fun vs H Q E => sp_how_many K cs vs H Q E ∨ (∃ v w : V, vs = [v, w] ∧ BadRowV H v ∧ ∀ H', Same H H' → E (.ref cs.BadRow) none H') ∨ (∃ (a : Addr) (ns : List Int) (w : V), vs = [.ref a, w] ∧ H a = some (.lst (ns.map V.int)) ∧ IsRow ns ∧ ns.length ≤ 1000 ∧ NotNum H w ∧ ∀ H', Same H H' → E (.ref cs.BadTotal) none H')
theorem len_how_many_k08 {K : PySem.W.Frag} {cs : Cs} {vs : List V} {H : Hp} {Q : VK} {E : XK} (h : sp_how_many_k08 K cs vs H Q E) : vs.length = 2 := by
  rcases h with h | h | h
  · exact len_how_many h
  · obtain ⟨_, _, rfl, _⟩ := h; rfl
  · obtain ⟨_, _, _, rfl, _⟩ := h; rfl
def sp_Several_init (_ : PySem.W.Frag) (cs : Cs) : Sp := fun vs H Q _ => ∃ (p dx s a b : Addr) (pr : Int) (xs : List V) (ns ms : List Int), vs = [.ref p, .ref s, .int pr, .ref a, .ref b] ∧ H p = some (.ins cs.Several dx []) ∧ H s = some (.lst xs) ∧ H a = some (.lst (ns.map V.int)) ∧ H b = some (.lst (ms.map V.int)) ∧
  ∀ t l u H', H t = none → H l = none → H u = none → t ≠ l → t ≠ u → l ≠ u → (∀ b o, H b = some o → b ≠ p → H' b = some o) → H' p = some (.ins cs.Several dx (fSeveral t pr l u)) → H' t = some (.lst xs) → H' l = some (.lst (ns.map V.int)) → H' u = some (.lst (ms.map V.int)) → Q .non H'
theorem len_Several_init {K : PySem.W.Frag} {cs : Cs} {vs : List V} {H : Hp} {Q : VK} {E : XK} (h : sp_Several_init K cs vs H Q E) : vs.length = 5 := by
  obtain ⟨_, _, _, _, _, _, _, _, _, rfl, _⟩ := h; rfl
theorem make_Several {K : PySem.W.Frag} {cs : Cs} {H : Hp} {Q : VK} {E : XK} {s a b : Addr} {pr : Int} {xs : List V} {ns ms : List Int} (hs : H s = some (.lst xs)) (ha : H a = some (.lst (ns.map V.int))) (hb : H b = some (.lst (ms.map V.int)))
    (q : ∀ x dx t l u H', H x = none → H t = none → H l = none → H u = none → t ≠ l → t ≠ u → l ≠ u → Same H H' → H' x = some (.ins cs.Several dx (fSeveral t pr l u)) → H' t = some (.lst xs) → H' l = some (.lst (ns.map V.int)) → H' u = some (.lst (ms.map V.int)) → Q (.ref x) H') : kMake cs.Several (sp_Several_init K cs) [] E Q [.ref s, .int pr, .ref a, .ref b] H := by
  refine wp_kMake fun x dx nx nd ne => ?_
  have fr : ∀ l, (upd (upd H dx (.own x)) x (.ins cs.Several dx [])) l = none → H l = none := fun l nl => by
    by_cases e : l = x
    · rw [e]; exact nx
    · by_cases e2 : l = dx
      · rw [e2]; exact nd
      · rw [upd_ne e, upd_ne e2] at nl
        exact nl
  refine ⟨x, dx, s, a, b, pr, xs, ns, ms, rfl, upd_same, at_new (at_new hs nd) (free_upd nx (Ne.symm ne)), at_new (at_new ha nd) (free_upd nx (Ne.symm ne)), at_new (at_new hb nd) (free_upd nx (Ne.symm ne)), fun t l u H' nt nl nu ntl ntu nlu keep hx ht hl hu => ⟨rfl, ?_⟩⟩
  exact q x dx t l u H' nx (fr t nt) (fr l nl) (fr u nu) ntl ntu nlu (same_make nx nd keep) hx ht hl hu
def sp_added (_ : PySem.W.Frag) (_ : Cs) : Sp := fun vs H Q _ => ∃ (a b : Addr) (ns : List Int) (B : Nat → Int), vs = [.ref a, .ref b] ∧ H a = some (.lst (ns.map V.int)) ∧ H b = some (.lst ((tabF ns B).map V.int)) ∧ ns.length ≤ 1000 ∧
  ∀ (T f g : Addr) (gs : List Int) (H' : Hp), H T = none → H f = none → H g = none → Same H H' → H' T = some (.tup [.ref f, .ref g]) → H' f = some (.lst ((tabF ns (bestF ns B)).map V.int)) → H' g = some (.lst (gs.map V.int)) → gs.length = ns.length + 1 → (∀ j, j ≤ ns.length → BegAt ns B gs j) → Q (.ref T) H'
theorem len_added {K : PySem.W.Frag} {cs : Cs} {vs : List V} {H : Hp} {Q : VK} {E : XK} (h : sp_added K cs vs H Q E) : vs.length = 2 := by
  obtain ⟨_, _, _, _, rfl, _⟩ := h; rfl
def sp_asked_many_k08 (_ : PySem.W.Frag) (cs : Cs) : Sp := fun vs H Q E => ∃ v : V, vs = [v] ∧ ((∃ i : Int, v = .int i ∧ 0 ≤ i ∧ Q .non H) ∨ (((∃ i : Int, v = .int i ∧ i < 0) ∨ NotNum H v) ∧ E (.ref cs.BadMany) none H))
theorem len_asked_many_k08 {K : PySem.W.Frag} {cs : Cs} {vs : List V} {H : Hp} {Q : VK} {E : XK} (h : sp_asked_many_k08 K cs vs H Q E) : vs.length = 1 := by
  obtain ⟨_, rfl, _⟩ := h; rfl
def sp_bounds (_ : PySem.W.Frag) (_ : Cs) : Sp := fun vs H Q _ => ∃ (a : Addr) (ns : List Int) (pr : Int), vs = [.ref a, .int pr] ∧ H a = some (.lst (ns.map V.int)) ∧ ns.length ≤ 1000 ∧
  ∀ (T l u : Addr) (H' : Hp), Same H H' → H' T = some (.tup [.ref l, .ref u]) → H' l = some (.lst ((outsTo ns pr ns.length).map V.int)) → H' u = some (.lst ((insTo ns pr ns.length).map V.int)) → Q (.ref T) H'
theorem len_bounds {K : PySem.W.Frag} {cs : Cs} {vs : List V} {H : Hp} {Q : VK} {E : XK} (h : sp_bounds K cs vs H Q E) : vs.length = 2 := by
  obtain ⟨_, _, _, rfl, _⟩ := h; rfl
def sp_stretches_of (_ : PySem.W.Frag) (_ : Cs) : Sp := fun vs H Q _ => ∃ (lv : Addr) (ns : List Int) (ls : List L4) (m : Nat), vs = [.ref lv, .int (ns.length : Int)] ∧ H lv = some (.lst (refsL ls)) ∧ ls.length = m + 1 ∧ Levels H ns ls ∧ ns.length ≤ 1000 ∧ m ≤ 1000 ∧
  ∀ (q : Addr) (ps : List P2) (at' level : Nat) (H' : Hp), Same H H' → H' q = some (.lst (refs2 ps.reverse)) → Pairs2 H' ps → BackTo ns m at' level ps → (level = 0 ∨ at' = 0) → Q (.ref q) H'
theorem len_stretches_of {K : PySem.W.Frag} {cs : Cs} {vs : List V} {H : Hp} {Q : VK} {E : XK} (h : sp_stretches_of K cs vs H Q E) : vs.length = 2 := by
  obtain ⟨_, _, _, _, rfl, _⟩ := h; rfl
def sp_several_k08 (K : PySem.W.Frag) (cs : Cs) : Sp := fun vs H Q E => False ∨ (∃ v w : V, vs = [v, w] ∧ BadRowV H v ∧ ∀ H', Same H H' → E (.ref cs.BadRow) none H') ∨ (∃ (a : Addr) (ns : List Int) (w : V), vs = [.ref a, w] ∧ H a = some (.lst (ns.map V.int)) ∧ IsRow ns ∧ ns.length ≤ 1000 ∧ ((∃ i : Int, w = .int i ∧ i < 0) ∨ NotNum H w) ∧ ∀ H', Same H H' → E (.ref cs.BadMany) none H')
theorem len_several_k08 {K : PySem.W.Frag} {cs : Cs} {vs : List V} {H : Hp} {Q : VK} {E : XK} (h : sp_several_k08 K cs vs H Q E) : vs.length = 2 := by
  rcases h with h | h | h
  · exact h.elim
  · obtain ⟨_, _, rfl, _⟩ := h; rfl
  · obtain ⟨_, _, _, rfl, _⟩ := h; rfl
def sp_Steep_init (_ : PySem.W.Frag) (cs : Cs) : Sp := fun vs H Q _ => ∃ (p dx a : Addr) (f m : Int) (ns : List Int), vs = [.ref p, .int f, .int m, .ref a] ∧ H p = some (.ins cs.Steep dx []) ∧ H a = some (.lst (ns.map V.int)) ∧
  ∀ l H', H l = none → (∀ b o, H b = some o → b ≠ p → H' b = some o) → H' p = some (.ins cs.Steep dx (fSteep f m l)) → H' l = some (.lst (ns.map V.int)) → Q .non H'
theorem len_Steep_init {K : PySem.W.Frag} {cs : Cs} {vs : List V} {H : Hp} {Q : VK} {E : XK} (h : sp_Steep_init K cs vs H Q E) : vs.length = 4 := by
  obtain ⟨_, _, _, _, _, _, rfl, _⟩ := h; rfl
theorem make_Steep {K : PySem.W.Frag} {cs : Cs} {H : Hp} {Q : VK} {E : XK} {a : Addr} {f m : Int} {ns : List Int} (ha : H a = some (.lst (ns.map V.int)))
    (q : ∀ x dx l H', H x = none → H l = none → x ≠ l → Same H H' → H' x = some (.ins cs.Steep dx (fSteep f m l)) → H' l = some (.lst (ns.map V.int)) → Q (.ref x) H') : kMake cs.Steep (sp_Steep_init K cs) [] E Q [.int f, .int m, .ref a] H := by
  refine wp_kMake fun x dx nx nd ne => ?_
  refine ⟨x, dx, a, f, m, ns, rfl, upd_same, at_new (at_new ha nd) (free_upd nx (Ne.symm ne)), fun l H' nl keep hx hl => ⟨rfl, ?_⟩⟩
  have hxl : x ≠ l := ne_of hx hl (by intro z; cases z)
  refine q x dx l H' nx ?_ hxl (same_make nx nd keep) hx hl
  by_cases e : l = dx
  · subst e
    rw [upd_ne ne, upd_same] at nl
    cases nl
  · rw [upd_ne (Ne.symm hxl), upd_ne e] at nl
    exact nl
def sp_steepest_k08 (K : PySem.W.Frag) (cs : Cs) : Sp := fun vs H Q E => False ∨ (∃ v w : V, vs = [v, w] ∧ BadRowV H v ∧ ∀ H', Same H H' → E (.ref cs.BadRow) none H') ∨ (∃ (a : Addr) (ns : List Int) (w : V), vs = [.ref a, w] ∧ H a = some (.lst (ns.map V.int)) ∧ IsRow ns ∧ ns.length ≤ 1000 ∧ ((∃ i : Int, w = .int i ∧ ¬ (1 ≤ i ∧ i ≤ ns.length)) ∨ NotNum H w) ∧ ∀ H', Same H H' → E (.ref cs.BadLeast) none H')
theorem len_steepest_k08 {K : PySem.W.Frag} {cs : Cs} {vs : List V} {H : Hp} {Q : VK} {E : XK} (h : sp_steepest_k08 K cs vs H Q E) : vs.length = 2 := by
  rcases h with h | h | h
  · exact h.elim
  · obtain ⟨_, _, rfl, _⟩ := h; rfl
  · obtain ⟨_, _, _, rfl, _⟩ := h; rfl
def sp_sums (_ : PySem.W.Frag) (_ : Cs) : Sp := fun vs H Q _ => ∃ (a : Addr) (ns : List Int), vs = [.ref a] ∧ H a = some (.lst (ns.map V.int)) ∧ IsRow ns ∧ ns.length ≤ 1000 ∧ RetI H Q (psums ns)
theorem len_sums {K : PySem.W.Frag} {cs : Cs} {vs : List V} {H : Hp} {Q : VK} {E : XK} (h : sp_sums K cs vs H Q E) : vs.length = 1 := by
  obtain ⟨_, _, rfl, _⟩ := h; rfl
def sp_sums_k08 (K : PySem.W.Frag) (cs : Cs) : Sp := fun vs H Q E => sp_sums K cs vs H Q E ∨ (∃ v : V, vs = [v] ∧ BadRowV H v ∧ ∀ H', Same H H' → E (.ref cs.BadRow) none H') ∨ False
theorem len_sums_k08 {K : PySem.W.Frag} {cs : Cs} {vs : List V} {H : Hp} {Q : VK} {E : XK} (h : sp_sums_k08 K cs vs H Q E) : vs.length = 1 := by
  rcases h with h | h | h
  · exact len_sums h
  · obtain ⟨_, rfl, _⟩ := h; rfl
  · exact h.elim
def doors_l_rows_asked_k08_0 (K : PySem.W.Frag) (cs : Cs) (f : Addr) (sp : Sp) : Prop := (f = cs.f_sums ∧ sp = sp_sums_k08 K cs) ∨ (f = cs.f_around ∧ sp = sp_around_k08 K cs)
def doors_l_rows_asked_k08_1 (K : PySem.W.Frag) (cs : Cs) (f : Addr) (sp : Sp) : Prop := (f = cs.f_best ∧ sp = sp_best_k08 K cs) ∨ (f = cs.f_steepest ∧ sp = sp_steepest_k08 K cs) ∨ (f = cs.f_exact ∧ sp = sp_exact_k08 K cs) ∨ (f = cs.f_how_many ∧ sp = sp_how_many_k08 K cs) ∨ (f = cs.f_several ∧ sp = sp_several_k08 K cs)
def sp_l_rows_asked_k08 (_ : PySem.W.Frag) (cs : Cs) : Sp := fun vs H _ E => ∃ w m : Int, vs = [.int w, .int m] ∧ 0 ≤ m ∧ m < 1000 ∧ ∀ H', Same H H' → E (.ref cs.BadRow) none H'
theorem len_l_rows_asked_k08 {K : PySem.W.Frag} {cs : Cs} {vs : List V} {H : Hp} {Q : VK} {E : XK} (h : sp_l_rows_asked_k08 K cs vs H Q E) : vs.length = 2 := by
  obtain ⟨_, _, rfl, _⟩ := h; rfl
theorem BadRowV.same {H H' : Hp} {v : V} (h : BadRowV H v) (s : Same H H') : BadRowV H' v := by
  rcases h with h | h | h | ⟨a, xs, e, h⟩ | ⟨a, ns, x, e, h, hl, hb⟩
  · exact .inl h
  · exact .inr (.inl h)
  · exact .inr (.inr (.inl h))
  · exact .inr (.inr (.inr (.inl ⟨a, xs, e, s _ _ h⟩)))
  · exact .inr (.inr (.inr (.inr ⟨a, ns, x, e, s _ _ h, hl, hb⟩)))
theorem wp_seq_join {A B C : TS} {D : Ends} {σ : L2.St} {H : Hp} (P : L2.St → Hp → Prop) (hC : ∀ σ' H', P σ' H' → C D σ' H') (h : ∀ n : L2.St → Hp → Prop, (∀ σ' H', P σ' H' → n σ' H') → tSeq A B { D with nx := n } σ H) : tSeq A (tSeq B C) D σ H := h (C D) hC
theorem rep3 (k : Nat) : (List.replicate k [V.int 3]).flatten = (List.replicate k (3 : Int)).map V.int := by
  induction k with
  | zero => rfl
  | succ k ih => rw [List.replicate_succ, List.flatten_cons, ih, List.replicate_succ]; rfl
def doors_l_told_k08_0 (K : PySem.W.Frag) (cs : Cs) (f : Addr) (sp : Sp) : Prop := (f = cs.f_best ∧ sp = sp_best_k08 K cs) ∨ (f = cs.f_steepest ∧ sp = sp_steepest_k08 K cs)
def doors_l_told_k08_1 (K : PySem.W.Frag) (cs : Cs) (f : Addr) (sp : Sp) : Prop := (f = cs.f_exact ∧ sp = sp_exact_k08 K cs) ∨ (f = cs.f_how_many ∧ sp = sp_how_many_k08 K cs)
/-- of which class an error of this kind is -/
def dueL (k : Int) : List Bool := [decide (k = 0), decide (k = 1), decide (k = 2), decide (k = 3), true]
def sp_l_told_k08 (_ : PySem.W.Frag) (_ : Cs) : Sp := fun vs H Q _ => ∃ k w m : Int, vs = [.int k, .int w, .int m] ∧ 0 ≤ k ∧ k < 4 ∧ 0 ≤ m ∧ m < 1000 ∧
  ∀ p H', H p = none → Same H H' → H' p = some (.lst ((dueL k).map V.bl)) → Q (.ref p) H'
theorem len_l_told_k08 {K : PySem.W.Frag} {cs : Cs} {vs : List V} {H : Hp} {Q : VK} {E : XK} (h : sp_l_told_k08 K cs vs H Q E) : vs.length = 3 := by
  obtain ⟨_, _, _, rfl, _⟩ := h; rfl
def errOf (cs : Cs) (k : Int) : Addr := if k = 0 then cs.BadRow else if k = 1 then cs.BadLeast else if k = 2 then cs.BadTotal else cs.BadMany
theorem wp_seq_join2 {A C : TS} {D : Ends} {σ : L2.St} {H : Hp} (P : L2.St → Hp → Prop) (hC : ∀ σ' H', P σ' H' → C D σ' H') (h : ∀ n : L2.St → Hp → Prop, (∀ σ' H', P σ' H' → n σ' H') → A { D with nx := n } σ H) : tSeq A C D σ H := h (C D) hC
theorem wp_tTryAs {K : PySem.W.Frag} {C : Addr} {i : Nat} {tb : WX → TS} {ts : Addr → Value → Option Addr → TS} {D : Ends} {σ : L2.St} {H : Hp} (P : Value → L2.St → Hp → Prop)
    (hs : ∀ cls σ' H', P cls σ' H' → PySem.W.exmOne K cls (.ref C) = some true ∧ ∀ a, H' a = none → ts a cls none { nx := fun σ2 H2 => D.nx (σ2.set i none) H2, rt := D.rt, bk := fun σ2 H2 => D.bk (σ2.set i none) H2, ct := fun σ2 H2 => D.ct (σ2.set i none) H2 } (σ'.set i (some (.ref a))) H')
    (hb : ∀ W : WX, (∀ cls σ' H', P cls σ' H' → W cls none σ' H') → tb W D σ H) : tTryAs K C i tb ts D σ H :=
  hb _ fun cls σ' H' p => ⟨true, (hs cls σ' H' p).1, fun _ a ha => (hs cls σ' H' p).2 a ha, fun z => by cases z⟩
theorem errOf_m {K : PySem.W.Frag} {cs : Cs} (X : Errs K cs) (k : Int) : PySem.W.exmOne K (.ref (errOf cs k)) (.ref cs.StretchError) = some true := by
  unfold errOf
  split
  · exact X.m_BadRow
  · split
    · exact X.m_BadLeast
    · split
      · exact X.m_BadTotal
      · exact X.m_BadMany
theorem errOf_kits {K : PySem.W.Frag} {cs : Cs} (X : Errs K cs) {k : Int} (k0 : 0 ≤ k) (k3 : k < 4) : PySem.W.kitOne K (.ref (errOf cs k)) (.ref cs.BadRow) = some (decide (k = 0)) ∧ PySem.W.kitOne K (.ref (errOf cs k)) (.ref cs.BadLeast) = some (decide (k = 1)) ∧
    PySem.W.kitOne K (.ref (errOf cs k)) (.ref cs.BadTotal) = some (decide (k = 2)) ∧ PySem.W.kitOne K (.ref (errOf cs k)) (.ref cs.BadMany) = some (decide (k = 3)) ∧ PySem.W.kitOne K (.ref (errOf cs k)) (.type "ValueError") = some true ∧ errOf cs k ∈ badsOf cs := by
  obtain rfl | rfl | rfl | rfl : k = 0 ∨ k = 1 ∨ k = 2 ∨ k = 3 := by omega
  · exact ⟨X.k_BadRow_BadRow, X.k_BadRow_BadLeast, X.k_BadRow_BadTotal, X.k_BadRow_BadMany, X.v_BadRow, by simp [badsOf, errOf]⟩
  · exact ⟨X.k_BadLeast_BadRow, X.k_BadLeast_BadLeast, X.k_BadLeast_BadTotal, X.k_BadLeast_BadMany, X.v_BadLeast, by simp [badsOf, errOf]⟩
  · exact ⟨X.k_BadTotal_BadRow, X.k_BadTotal_BadLeast, X.k_BadTotal_BadTotal, X.k_BadTotal_BadMany, X.v_BadTotal, by simp [badsOf, errOf]⟩
  · exact ⟨X.k_BadMany_BadRow, X.k_BadMany_BadLeast, X.k_BadMany_BadTotal, X.k_BadMany_BadMany, X.v_BadMany, by simp [badsOf, errOf]⟩
def sp_law_k08 (K : PySem.W.Frag) (_ : Cs) : Sp := spLaw K
theorem len_law_k08 {K : PySem.W.Frag} {cs : Cs} {vs : List V} {H : Hp} {Q : VK} {E : XK} (h : sp_law_k08 K cs vs H Q E) : vs.length = 1 := by
  obtain ⟨_, _, rfl, _⟩ := h; rfl
theorem dpAll_bls {K : PySem.W.Frag} {H : Hp} : ∀ bs : List Bool, DpAll K H (bs.map V.bl) (bs.map PyData.bool)
  | [] => .nil
  | b :: r => .cons (.bl b) (dpAll_bls r)
theorem eqvAll_bls : ∀ bs : List Bool, PyData.eqvAll (bs.map PyData.bool) (bs.map PyData.bool) = true
  | [] => by simp [PyData.eqvAll]
  | b :: r => by
    simp only [List.map_cons, PyData.eqvAll, eqvAll_bls r]
    cases b <;> simp [PyData.eqv]
theorem canLay_bls : ∀ bs : List Bool, PyData.canLayAll0 (bs.map PyData.bool) = true
  | [] => by simp [PyData.canLayAll0]
  | b :: r => by simp [PyData.canLayAll0, PyData.canLay0, canLay_bls r]
theorem depth_bls : ∀ bs : List Bool, PyData.depthAll (bs.map PyData.bool) = 0
  | [] => by simp [PyData.depthAll]
  | b :: r => by simp [PyData.depthAll, PyData.depth, depth_bls r]
theorem shaped_bls (bs : List Bool) : SeqAt.shaped (.list (bs.map PyData.bool)) = true := by
  simp [SeqAt.shaped, PyData.canLay0, PyData.depth, canLay_bls, depth_bls]
theorem wp_neBs {K : PySem.W.Frag} {H : Hp} {Q : VK} {a b : Addr} {bs : List Bool} (h : SqL K H a (bs.map V.bl)) (h' : SqL K H b (bs.map V.bl)) (q : Q (.bl false) H) : rNeD K (.ref a) (.ref b) H Q := by
  refine ⟨.list (bs.map PyData.bool), .list (bs.map PyData.bool), .lst h (dpAll_bls bs), .lst h' (dpAll_bls bs), shaped_bls _, shaped_bls _, ?_⟩
  show Q (.bl (!PyData.eqvAll _ _)) H
  rw [eqvAll_bls]
  exact q
theorem cnt_nil : cntOf [] 0 = 0 := by
  unfold cntOf
  rw [psums_nil]
  rfl
theorem seg_11 {f m : Int} (h : IsThere f m 2) : segS [1, 1] f m ≤ 2 := by
  obtain ⟨h1, h2, h3⟩ := h
  have : (f = 0 ∧ m = 1) ∨ (f = 0 ∧ m = 2) ∨ (f = 1 ∧ m = 1) := by omega
  rcases this with ⟨rfl, rfl⟩ | ⟨rfl, rfl⟩ | ⟨rfl, rfl⟩ <;> decide
end Bs
namespace Bs
open PySem L2
abbrev N_Around_init : List Str := ["self", "first", "many", "lows", "tops"]
def t_Around_init (K : PySem.W.Frag) (cs : Cs) : TS :=
  (tSeq (sFld K (tVar 0) (tVar 1) "first")
  (tSeq (sFld K (tVar 0) (tVar 2) "many")
  (tSeq (sFld K (tVar 0) (tCB (cList K) (tCons (tVar 3) tNil)) "lows")
  (sFld K (tVar 0) (tCB (cList K) (tCons (tVar 4) tNil)) "tops"))))
abbrev N_is_number_k08 : List Str := ["thing"]
def t_is_number_k08 (K : PySem.W.Frag) (cs : Cs) : TS :=
  (tRet (tAndV (tCB (rIsi K) (tCons (tVar 0) (tCons (tC (.ty "int")) tNil))) (tNotV (tCB (rIsi K) (tCons (tVar 0) (tCons (tC (.ty "bool")) tNil))))))
abbrev N_asked_least_k08 : List Str := ["row", "least"]
def t_asked_least_k08 (K : PySem.W.Frag) (cs : Cs) (E : XK) : TS :=
  (tIfS (tOr (tNot (tB (tCall (sp_is_number_k08 K cs) [] E0 (tCons (tVar 1) tNil)))) (tNot (tTest (tChain rLeI rLeI (tC (.int 1)) (tVar 1) (tCB (cLen K) (tCons (tVar 0) tNil)))))) (tRz E cs.BadLeast) tNext)
abbrev N_asked_row_k08 : List Str := ["row", "one"]
def t_asked_row_k08 (K : PySem.W.Frag) (cs : Cs) (E : XK) : TS :=
  (tIfS (tOr (tNot (tB (tCB (rIsi K) (tCons (tVar 0) (tCons (tC (.ty "list")) tNil))))) (tNot (tB (tCB (rAll K) (tCons (tLc (iList K (tVar 0)) (gName 1) tYes (tAndV (tCall (sp_is_number_k08 K cs) [] E0 (tCons (tVar 1) tNil)) (tChain rLeI rLeI (tUn rNegI (tC (.int 1000000))) (tVar 1) (tC (.int 1000000)))) [1]) tNil))))) (tRz E cs.BadRow) tNext)
abbrev N_summed : List Str := ["row", "found", "one"]
def t_summed (K : PySem.W.Frag) (cs : Cs) : TS :=
  (tSeq (tAsg (tLst (tCons (tC (.int 0)) tNil)) (gName 1))
  (tSeq (tFor (iList K (tVar 0)) (gName 2) (tDrop (tBM K "list" rAppend (tVar 1) (tCons (tOp rAddI (tOp (rIxL K) (tVar 1) (tUn rNegI (tC (.int 1)))) (tVar 2)) tNil))))
  (tRet (tVar 1))))
abbrev N_best_of : List Str := ["row", "least", "total", "lows", "low", "first", "many", "at"]
def t_best_of (K : PySem.W.Frag) (cs : Cs) : TS :=
  (tSeq (tAsg (tCall (sp_summed K cs) [] E0 (tCons (tVar 0) tNil)) (gName 2))
  (tSeq (tAsg (tLst tNil) (gName 3))
  (tSeq (tAsg (tC (.int 0)) (gName 4))
  (tSeq (tAsg (tC (.int 0)) (gName 5))
  (tSeq (tAsg (tVar 1) (gName 6))
  (tSeq (tFor (iRng1 (tCons (tOp rAddI (tOp rSubI (tCB (cLen K) (tCons (tVar 0) tNil)) (tVar 1)) (tC (.int 1))) tNil)) (gName 7) (tSeq (tIfS (tTest (tOp rLtI (tOp (rIxL K) (tVar 2) (tVar 7)) (tOp (rIxL K) (tVar 2) (tVar 4)))) (tAsg (tVar 7) (gName 4)) tNext)
  (tSeq (tDrop (tBM K "list" rAppend (tVar 3) (tCons (tOp (rIxL K) (tVar 2) (tVar 4)) tNil)))
  (tIfS (tTest (tOp rGtI (tOp rSubI (tOp (rIxL K) (tVar 2) (tOp rAddI (tVar 7) (tVar 1))) (tOp (rIxL K) (tVar 2) (tVar 4))) (tOp rSubI (tOp (rIxL K) (tVar 2) (tOp rAddI (tVar 5) (tVar 6))) (tOp (rIxL K) (tVar 2) (tVar 5))))) (tSeq (tAsg (tVar 4) (gName 5))
  (tAsg (tOp rSubI (tOp rAddI (tVar 7) (tVar 1)) (tVar 4)) (gName 6))) tNext))))
  (tRet (tTup (tCons (tVar 5) (tCons (tVar 6) (tCons (tVar 3) tNil)))))))))))
abbrev N_around_k08 : List Str := ["row", "told", "tops", "first", "many", "lows", "within", "inner", "count", "one"]
def t_around_k08 (K : PySem.W.Frag) (cs : Cs) (E : XK) : TS :=
  (tSeq (tDrop (tCallS (sp_asked_row_k08 K cs) (fun _ => E) (tCons (tVar 0) tNil)))
  (tSeq (tDrop (tCallS (sp_asked_least_k08 K cs) (fun _ => E) (tCons (tVar 0) (tCons (tC (.int 1)) tNil))))
  (tSeq (tAsg (tCall (sp_best_of K cs) [] E0 (tCons (tVar 0) (tCons (tC (.int 1)) tNil))) (gTup K 3 (gCons (gName 3) (gCons (gName 4) (gCons (gName 5) gNil)))))
  (tSeq (tAsg (tCB (rSum K) (tCons (tSl (rSlL K) (tVar 0) (tPart (tVar 3)) (tPart (tOp rAddI (tVar 3) (tVar 4)))) tNil)) (gName 1))
  (tSeq (tAsg (tLst tNil) (gName 2))
  (tSeq (tIfS (tTest (tOp rGtI (tCB (cLen K) (tCons (tVar 0) tNil)) (tC (.int 2)))) (tSeq (tAsg (tLc (iList K (tSl (rSlL K) (tVar 0) (tPart (tC (.int 1))) (tPart (tUn rNegI (tC (.int 1)))))) (gName 9) tYes (tUn rNegI (tVar 9)) [9]) (gName 6))
  (tSeq (tAsg (tCall (sp_best_of K cs) [] E0 (tCons (tVar 6) (tCons (tC (.int 1)) tNil))) (gTup K 3 (gCons (gName 7) (gCons (gName 8) (gCons (gName 2) gNil)))))
  (tIfS (tTest (tOp rGtI (tOp rAddI (tCB (rSum K) (tCons (tVar 0) tNil)) (tCB (rSum K) (tCons (tSl (rSlL K) (tVar 6) (tPart (tVar 7)) (tPart (tOp rAddI (tVar 7) (tVar 8)))) tNil))) (tVar 1))) (tSeq (tAsg (tOp rAddI (tOp rAddI (tVar 7) (tC (.int 1))) (tVar 8)) (gName 3))
  (tAsg (tOp rSubI (tCB (cLen K) (tCons (tVar 0) tNil)) (tVar 8)) (gName 4))) tNext))) tNext)
  (tRet (tMake cs.Around (sp_Around_init K cs) [] E0 (tCons (tVar 3) (tCons (tVar 4) (tCons (tVar 5) (tCons (tVar 2) tNil))))))))))))
abbrev N_Best_init : List Str := ["self", "first", "many", "lows"]
def t_Best_init (K : PySem.W.Frag) (cs : Cs) : TS :=
  (tSeq (sFld K (tVar 0) (tVar 1) "first")
  (tSeq (sFld K (tVar 0) (tVar 2) "many")
  (sFld K (tVar 0) (tCB (cList K) (tCons (tVar 3) tNil)) "lows")))
abbrev N_best_k08 : List Str := ["row", "least", "first", "many", "lows"]
def t_best_k08 (K : PySem.W.Frag) (cs : Cs) (E : XK) : TS :=
  (tSeq (tDrop (tCallS (sp_asked_row_k08 K cs) (fun _ => E) (tCons (tVar 0) tNil)))
  (tSeq (tDrop (tCallS (sp_asked_least_k08 K cs) (fun _ => E) (tCons (tVar 0) (tCons (tVar 1) tNil))))
  (tSeq (tAsg (tCall (sp_best_of K cs) [] E0 (tCons (tVar 0) (tCons (tVar 1) tNil))) (gTup K 3 (gCons (gName 2) (gCons (gName 3) (gCons (gName 4) gNil)))))
  (tRet (tMake cs.Best (sp_Best_init K cs) [] E0 (tCons (tVar 2) (tCons (tVar 3) (tCons (tVar 4) tNil))))))))
abbrev N_Exact_init : List Str := ["self", "first", "many"]
def t_Exact_init (K : PySem.W.Frag) (cs : Cs) : TS :=
  (tSeq (sFld K (tVar 0) (tVar 1) "first")
  (sFld K (tVar 0) (tVar 2) "many"))
abbrev N_Never_init : List Str := ["self", "table"]
def t_Never_init (K : PySem.W.Frag) (cs : Cs) : TS :=
  (sFld K (tVar 0) (tCB (cList K) (tCons (tVar 1) tNil)) "table")
abbrev N_asked_total_k08 : List Str := ["total"]
def t_asked_total_k08 (K : PySem.W.Frag) (cs : Cs) (E : XK) : TS :=
  (tIfS (tNot (tB (tCall (sp_is_number_k08 K cs) [] E0 (tCons (tVar 0) tNil)))) (tRz E cs.BadTotal) tNext)
abbrev N_exact_k08 : List Str := ["row", "total", "firsts", "lasts", "at", "number"]
def t_exact_k08 (K : PySem.W.Frag) (cs : Cs) (E : XK) : TS :=
  (tSeq (tDrop (tCallS (sp_asked_row_k08 K cs) (fun _ => E) (tCons (tVar 0) tNil)))
  (tSeq (tDrop (tCallS (sp_asked_total_k08 K cs) (fun _ => E) (tCons (tVar 1) tNil)))
  (tSeq (tAsg tDNewK (gName 2))
  (tSeq (tAsg tDNewK (gName 3))
  (tSeq (tFor (iEnum K (tCons (tCall (sp_summed K cs) [] E0 (tCons (tVar 0) tNil)) tNil)) (gTup K 2 (gCons (gName 4) (gCons (gName 5) gNil))) (tSeq (tIfS (tB (tDIn (tOp rSubI (tVar 5) (tVar 1)) (tVar 2))) (tRet (tMake cs.Exact (sp_Exact_init K cs) [] E0 (tCons (tDGet (tVar 2) (tOp rSubI (tVar 5) (tVar 1))) (tCons (tOp rSubI (tVar 4) (tDGet (tVar 2) (tOp rSubI (tVar 5) (tVar 1)))) tNil)))) tNext)
  (tSeq (tIfS (tB (tDNotIn (tVar 5) (tVar 2))) (sDPut (tVar 2) (tVar 5) (tVar 4)) tNext)
  (sDPut (tVar 3) (tVar 5) (tVar 4)))))
  (tRet (tMake cs.Never (sp_Never_init K cs) [] E0 (tCons (tLc (iList K (tCB (cSortedD K) (tCons (tVar 2) tNil))) (gName 5) tYes (tTup (tCons (tVar 5) (tCons (tDGet (tVar 2) (tVar 5)) (tCons (tDGet (tVar 3) (tVar 5)) tNil)))) [5]) tNil))))))))
abbrev N_how_many_k08 : List Str := ["row", "total", "counts", "found", "number"]
def t_how_many_k08 (K : PySem.W.Frag) (cs : Cs) (E : XK) : TS :=
  (tSeq (tDrop (tCallS (sp_asked_row_k08 K cs) (fun _ => E) (tCons (tVar 0) tNil)))
  (tSeq (tDrop (tCallS (sp_asked_total_k08 K cs) (fun _ => E) (tCons (tVar 1) tNil)))
  (tSeq (tAsg tDNewK (gName 2))
  (tSeq (tAsg (tC (.int 0)) (gName 3))
  (tSeq (tFor (iList K (tCall (sp_summed K cs) [] E0 (tCons (tVar 0) tNil))) (gName 4) (tSeq (tAsg (tOp rAddI (tVar 3) (tDGet2 (tVar 2) (tOp rSubI (tVar 4) (tVar 1)) (tC (.int 0)))) (gName 3))
  (sDPut (tVar 2) (tVar 4) (tOp rAddI (tDGet2 (tVar 2) (tVar 4) (tC (.int 0))) (tC (.int 1))))))
  (tRet (tVar 3)))))))
abbrev N_Several_init : List Str := ["self", "stretches", "price", "outs", "ins"]
def t_Several_init (K : PySem.W.Frag) (cs : Cs) : TS :=
  (tSeq (sFld K (tVar 0) (tCB (cList K) (tCons (tVar 1) tNil)) "stretches")
  (tSeq (sFld K (tVar 0) (tVar 2) "price")
  (tSeq (sFld K (tVar 0) (tCB (cList K) (tCons (tVar 3) tNil)) "outs")
  (sFld K (tVar 0) (tCB (cList K) (tCons (tVar 4) tNil)) "ins"))))
abbrev N_added : List Str := ["row", "best", "found", "begins", "running", "begin", "at", "one"]
def t_added (K : PySem.W.Frag) (cs : Cs) : TS :=
  (tSeq (tAsg (tLst (tCons (tOp (rIxL K) (tVar 1) (tC (.int 0))) tNil)) (gName 2))
  (tSeq (tAsg (tLst (tCons (tUn rNegI (tC (.int 1))) tNil)) (gName 3))
  (tSeq (tAsg (tOp (rIxL K) (tVar 1) (tC (.int 0))) (gName 4))
  (tSeq (tAsg (tC (.int 0)) (gName 5))
  (tSeq (tFor (iEnum K (tCons (tVar 0) tNil)) (gTup K 2 (gCons (gName 6) (gCons (gName 7) gNil))) (tSeq (tIfS (tOr (tTest (tOp rEq (tVar 6) (tC (.int 0)))) (tTest (tOp rGtI (tOp (rIxL K) (tVar 1) (tVar 6)) (tVar 4)))) (tSeq (tAsg (tOp (rIxL K) (tVar 1) (tVar 6)) (gName 4))
  (tAsg (tVar 6) (gName 5))) tNext)
  (tSeq (tAsg (tOp rAddI (tVar 4) (tVar 7)) (gName 4))
  (tIfS (tTest (tOp rGtI (tVar 4) (tOp (rIxL K) (tVar 2) (tUn rNegI (tC (.int 1)))))) (tSeq (tDrop (tBM K "list" rAppend (tVar 2) (tCons (tVar 4) tNil)))
  (tDrop (tBM K "list" rAppend (tVar 3) (tCons (tVar 5) tNil)))) (tSeq (tDrop (tBM K "list" rAppend (tVar 2) (tCons (tOp (rIxL K) (tVar 2) (tUn rNegI (tC (.int 1)))) tNil)))
  (tDrop (tBM K "list" rAppend (tVar 3) (tCons (tUn rNegI (tC (.int 1))) tNil))))))))
  (tRet (tTup (tCons (tVar 2) (tCons (tVar 3) tNil)))))))))
abbrev N_asked_many_k08 : List Str := ["many"]
def t_asked_many_k08 (K : PySem.W.Frag) (cs : Cs) (E : XK) : TS :=
  (tIfS (tOr (tNot (tB (tCall (sp_is_number_k08 K cs) [] E0 (tCons (tVar 0) tNil)))) (tTest (tOp rLtI (tVar 0) (tC (.int 0))))) (tRz E cs.BadMany) tNext)
abbrev N_bounds : List Str := ["row", "price", "outs", "ins", "one"]
def t_bounds (K : PySem.W.Frag) (cs : Cs) : TS :=
  (tSeq (tAsg (tLst (tCons (tC (.int 0)) tNil)) (gName 2))
  (tSeq (tAsg (tLst tNil) (gName 3))
  (tSeq (tFor (iList K (tVar 0)) (gName 4) (tSeq (tDrop (tBM K "list" rAppend (tVar 3) (tCons (tOp rAddI (tOp rSubI (tOp (rIxL K) (tVar 2) (tUn rNegI (tC (.int 1)))) (tVar 1)) (tVar 4)) tNil)))
  (tSeq (tIfS (tTest (tOp rGtI (tCB (cLen K) (tCons (tVar 3) tNil)) (tC (.int 1)))) (tAsg (tCB cMax2 (tCons (tOp (rIxL K) (tVar 3) (tUn rNegI (tC (.int 1)))) (tCons (tOp rAddI (tOp (rIxL K) (tVar 3) (tUn rNegI (tC (.int 2)))) (tVar 4)) tNil))) (gSub (tVar 3) (tUn rNegI (tC (.int 1))) rSetL)) tNext)
  (tDrop (tBM K "list" rAppend (tVar 2) (tCons (tCB cMax2 (tCons (tOp (rIxL K) (tVar 2) (tUn rNegI (tC (.int 1)))) (tCons (tOp (rIxL K) (tVar 3) (tUn rNegI (tC (.int 1)))) tNil))) tNil))))))
  (tRet (tTup (tCons (tVar 2) (tCons (tVar 3) tNil)))))))
abbrev N_stretches_of : List Str := ["levels", "length", "found", "at", "level", "best", "begins"]
def t_stretches_of (K : PySem.W.Frag) (cs : Cs) : TS :=
  (tSeq (tAsg (tLst tNil) (gName 2))
  (tSeq (tAsg (tVar 1) (gName 3))
  (tSeq (tAsg (tOp rSubI (tCB (cLen K) (tCons (tVar 0) tNil)) (tC (.int 1))) (gName 4))
  (tSeq (tWhile (tAnd (tTest (tOp rGtI (tVar 4) (tC (.int 0)))) (tTest (tOp rGtI (tVar 3) (tC (.int 0))))) (tSeq (tAsg (tOp (rIxL K) (tVar 0) (tVar 4)) (gTup K 2 (gCons (gName 5) (gCons (gName 6) gNil))))
  (tIfS (tTest (tOp rGeI (tOp (rIxL K) (tVar 6) (tVar 3)) (tC (.int 0)))) (tSeq (tDrop (tBM K "list" rAppend (tVar 2) (tCons (tTup (tCons (tOp (rIxL K) (tVar 6) (tVar 3)) (tCons (tOp rSubI (tVar 3) (tOp (rIxL K) (tVar 6) (tVar 3))) tNil))) tNil)))
  (tSeq (tAsg (tOp (rIxL K) (tVar 6) (tVar 3)) (gName 3))
  (tAsg (tOp rSubI (tVar 4) (tC (.int 1))) (gName 4)))) (tAsg (tOp rSubI (tVar 3) (tC (.int 1))) (gName 3)))))
  (tRet (tRevL K (tVar 2)))))))
abbrev N_several_k08 : List Str := ["row", "many", "levels", "count", "price", "outs", "ins", "at"]
def t_several_k08 (K : PySem.W.Frag) (cs : Cs) (E : XK) : TS :=
  (tSeq (tDrop (tCallS (sp_asked_row_k08 K cs) (fun _ => E) (tCons (tVar 0) tNil)))
  (tSeq (tDrop (tCallS (sp_asked_many_k08 K cs) (fun _ => E) (tCons (tVar 1) tNil)))
  (tSeq (tAsg (tLst (tCons (tTup (tCons (tLc (iRng1 (tCons (tOp rAddI (tCB (cLen K) (tCons (tVar 0) tNil)) (tC (.int 1))) tNil)) (gName 7) tYes (tC (.int 0)) [7]) (tCons (tLst tNil) tNil))) tNil)) (gName 2))
  (tSeq (tFor (iRng1 (tCons (tOp rAddI (tCB cMin2 (tCons (tVar 1) (tCons (tCB (cLen K) (tCons (tVar 0) tNil)) tNil))) (tC (.int 1))) tNil)) (gName 3) (tDrop (tBM K "list" rAppend (tVar 2) (tCons (tCall (sp_added K cs) [] E0 (tCons (tVar 0) (tCons (tOp (rIxT K) (tOp (rIxL K) (tVar 2) (tUn rNegI (tC (.int 1)))) (tC (.int 0))) tNil))) tNil))))
  (tSeq (tAsg (tOp rSubI (tOp (rIxL K) (tOp (rIxT K) (tOp (rIxL K) (tVar 2) (tUn rNegI (tC (.int 1)))) (tC (.int 0))) (tUn rNegI (tC (.int 1)))) (tOp (rIxL K) (tOp (rIxT K) (tOp (rIxL K) (tVar 2) (tUn rNegI (tC (.int 2)))) (tC (.int 0))) (tUn rNegI (tC (.int 1))))) (gName 4))
  (tSeq (tAsg (tCall (sp_bounds K cs) [] E0 (tCons (tVar 0) (tCons (tVar 4) tNil))) (gTup K 2 (gCons (gName 5) (gCons (gName 6) gNil))))
  (tRet (tMake cs.Several (sp_Several_init K cs) [] E0 (tCons (tCall (sp_stretches_of K cs) [] E0 (tCons (tSl (rSlL K) (tVar 2) tNoPart (tPart (tUn rNegI (tC (.int 1))))) (tCons (tCB (cLen K) (tCons (tVar 0) tNil)) tNil))) (tCons (tVar 4) (tCons (tVar 5) (tCons (tVar 6) tNil))))))))))))
abbrev N_Steep_init : List Str := ["self", "first", "many", "lows"]
def t_Steep_init (K : PySem.W.Frag) (cs : Cs) : TS :=
  (tSeq (sFld K (tVar 0) (tVar 1) "first")
  (tSeq (sFld K (tVar 0) (tVar 2) "many")
  (sFld K (tVar 0) (tCB (cList K) (tCons (tVar 3) tNil)) "lows")))
abbrev N_steepest_k08 : List Str := ["row", "least", "first", "many", "told", "bent", "other", "count", "lows", "one"]
def t_steepest_k08 (K : PySem.W.Frag) (cs : Cs) (E : XK) : TS :=
  (tSeq (tDrop (tCallS (sp_asked_row_k08 K cs) (fun _ => E) (tCons (tVar 0) tNil)))
  (tSeq (tDrop (tCallS (sp_asked_least_k08 K cs) (fun _ => E) (tCons (tVar 0) (tCons (tVar 1) tNil))))
  (tSeq (tAsg (tC (.int 0)) (gName 2))
  (tSeq (tAsg (tVar 1) (gName 3))
  (tWhile (tB (tC (.bl true))) (tSeq (tAsg (tCB (rSum K) (tCons (tSl (rSlL K) (tVar 0) (tPart (tVar 2)) (tPart (tOp rAddI (tVar 2) (tVar 3)))) tNil)) (gName 4))
  (tSeq (tAsg (tLc (iList K (tVar 0)) (gName 9) tYes (tOp rSubI (tOp rMulI (tVar 9) (tVar 3)) (tVar 4)) [9]) (gName 5))
  (tSeq (tAsg (tCall (sp_best_of K cs) [] E0 (tCons (tVar 5) (tCons (tVar 1) tNil))) (gTup K 3 (gCons (gName 6) (gCons (gName 7) (gCons (gName 8) gNil)))))
  (tSeq (tIfS (tTest (tOp rLeI (tCB (rSum K) (tCons (tSl (rSlL K) (tVar 5) (tPart (tVar 6)) (tPart (tOp rAddI (tVar 6) (tVar 7)))) tNil)) (tC (.int 0)))) (tRet (tMake cs.Steep (sp_Steep_init K cs) [] E0 (tCons (tVar 2) (tCons (tVar 3) (tCons (tVar 8) tNil))))) tNext)
  (tSeq (tAsg (tVar 6) (gName 2))
  (tAsg (tVar 7) (gName 3))))))))))))
abbrev N_sums_k08 : List Str := ["row"]
def t_sums_k08 (K : PySem.W.Frag) (cs : Cs) (E : XK) : TS :=
  (tSeq (tDrop (tCallS (sp_asked_row_k08 K cs) (fun _ => E) (tCons (tVar 0) tNil)))
  (tRet (tCall (sp_summed K cs) [] E0 (tCons (tVar 0) tNil))))
abbrev N_l_rows_asked_k08 : List Str := ["_law_which", "_law_more", "_law_bad", "_law_door"]
def t_l_rows_asked_k08 (K : PySem.W.Frag) (cs : Cs) (E : XK) : TS :=
  (tSeq (tAsg (tOp (rIxL K) (tLst (tCons (tC .non) (tCons (tTup (tCons (tC (.int 1)) (tCons (tC (.int 2)) tNil))) (tCons (tC (.str "12")) (tCons (tC (.int 5)) (tCons (tLst (tCons (tOp rAddI (tC (.int 1000001)) (tVar 1)) tNil)) (tCons (tLst (tCons (tOp rSubI (tUn rNegI (tC (.int 1000001))) (tVar 1)) tNil)) (tCons (tLst (tCons (tC (.bl true)) tNil)) (tCons (tLst (tCons (tC (.str "1")) tNil)) (tCons (tLst (tCons (tC .non) tNil)) tNil)))))))))) (tOp rModI (tVar 0) (tC (.int 9)))) (gName 2))
  (tSeq (tIfS (tB (tCB (rIsi K) (tCons (tVar 2) (tCons (tC (.ty "list")) tNil)))) (tAsg (tOp rCat (tOp rRep (tLst (tCons (tC (.int 3)) tNil)) (tOp rModI (tVar 1) (tC (.int 6)))) (tVar 2)) (gName 2)) tNext)
  (tSeq (tAsg (tOp rModI (tOp rDivI (tVar 0) (tC (.int 9))) (tC (.int 7))) (gName 3))
  (tSeq (tIfS (tTest (tOp rLtI (tVar 3) (tC (.int 2)))) (tRet (tCallX (doors_l_rows_asked_k08_0 K cs) (fun _ => E) (tOp (rIxL K) (tLst (tCons (tC (.ref cs.f_sums)) (tCons (tC (.ref cs.f_around)) tNil))) (tVar 3)) (tCons (tVar 2) tNil))) tNext)
  (tRet (tCallX (doors_l_rows_asked_k08_1 K cs) (fun _ => E) (tOp (rIxL K) (tLst (tCons (tC (.ref cs.f_best)) (tCons (tC (.ref cs.f_steepest)) (tCons (tC (.ref cs.f_exact)) (tCons (tC (.ref cs.f_how_many)) (tCons (tC (.ref cs.f_several)) tNil)))))) (tOp rSubI (tVar 3) (tC (.int 2)))) (tCons (tVar 2) (tCons (tC .non) tNil))))))))
abbrev N_l_told_k08 : List Str := ["_law_kind", "_law_which", "_law_more", "error", "_law_found", "_law_bad"]
def t_l_told_k08 (K : PySem.W.Frag) (cs : Cs) : TS :=
  (tSeq (tTryAs K cs.StretchError 3 (fun W => (tIfS (tTest (tOp rEq (tVar 0) (tC (.int 0)))) (tDrop (tCallS (sp_l_rows_asked_k08 K cs) (WE W) (tCons (tVar 1) (tCons (tVar 2) tNil)))) (tIfS (tAnd (tTest (tOp rEq (tVar 0) (tC (.int 1)))) (tTest (tOp rEq (tOp rModI (tVar 1) (tC (.int 3))) (tC (.int 0))))) (tDrop (tCallS (sp_around_k08 K cs) (WE W) (tCons (tLst tNil) tNil))) (tIfS (tTest (tOp rEq (tVar 0) (tC (.int 1)))) (tSeq (tAsg (tOp (rIxL K) (tLst (tCons (tC .non) (tCons (tC (.str "1")) (tCons (tC (.bl true)) (tCons (tLst (tCons (tC (.int 1)) tNil)) (tCons (tC (.int 0)) (tCons (tOp rSubI (tUn rNegI (tC (.int 1))) (tVar 2)) (tCons (tOp rAddI (tC (.int 3)) (tVar 2)) (tCons (tTup (tCons (tC (.int 1)) tNil)) tNil))))))))) (tOp rModI (tOp rDivI (tVar 1) (tC (.int 3))) (tC (.int 8)))) (gName 5))
  (tDrop (tCallX (doors_l_told_k08_0 K cs) (WE W) (tOp (rIxL K) (tLst (tCons (tC (.ref cs.f_best)) (tCons (tC (.ref cs.f_steepest)) tNil))) (tOp rSubI (tOp rModI (tVar 1) (tC (.int 3))) (tC (.int 1)))) (tCons (tLst (tCons (tC (.int 5)) (tCons (tC (.int 6)) tNil))) (tCons (tVar 5) tNil))))) (tIfS (tTest (tOp rEq (tVar 0) (tC (.int 2)))) (tDrop (tCallX (doors_l_told_k08_1 K cs) (WE W) (tOp (rIxL K) (tLst (tCons (tC (.ref cs.f_exact)) (tCons (tC (.ref cs.f_how_many)) tNil))) (tOp rModI (tVar 1) (tC (.int 2)))) (tCons (tLst (tCons (tC (.int 5)) (tCons (tC (.int 6)) tNil))) (tCons (tOp (rIxL K) (tLst (tCons (tC .non) (tCons (tC (.str "1")) (tCons (tC (.bl true)) (tCons (tLst (tCons (tC (.int 1)) tNil)) (tCons (tTup (tCons (tC (.int 1)) tNil)) (tCons tDNewK tNil))))))) (tOp rModI (tOp rDivI (tVar 1) (tC (.int 2))) (tC (.int 6)))) tNil)))) (tDrop (tCallS (sp_several_k08 K cs) (WE W) (tCons (tLst (tCons (tC (.int 5)) (tCons (tC (.int 6)) tNil))) (tCons (tOp (rIxL K) (tLst (tCons (tC .non) (tCons (tC (.str "1")) (tCons (tC (.bl true)) (tCons (tLst (tCons (tC (.int 1)) tNil)) (tCons (tTup (tCons (tC (.int 1)) tNil)) (tCons (tUn rNegI (tC (.int 1))) (tCons (tOp rSubI (tUn rNegI (tC (.int 1))) (tVar 2)) tNil)))))))) (tOp rModI (tVar 1) (tC (.int 7)))) tNil))))))))) (fun a cls d => (tSeq (tAsg (tLst (tCons (tCB (rIsEs K (badsOf cs) a cls d) (tCons (tVar 3) (tCons (tC (.ref cs.BadRow)) tNil))) (tCons (tCB (rIsEs K (badsOf cs) a cls d) (tCons (tVar 3) (tCons (tC (.ref cs.BadLeast)) tNil))) (tCons (tCB (rIsEs K (badsOf cs) a cls d) (tCons (tVar 3) (tCons (tC (.ref cs.BadTotal)) tNil))) tNil)))) (gName 4))
  (tRet (tOp rCat (tVar 4) (tLst (tCons (tCB (rIsEs K (badsOf cs) a cls d) (tCons (tVar 3) (tCons (tC (.ref cs.BadMany)) tNil))) (tCons (tCB (rIsEs K (badsOf cs) a cls d) (tCons (tVar 3) (tCons (tC (.ty "ValueError")) tNil))) tNil))))))))
  (tRet (tLst tNil)))
abbrev N_law_k08 : List Str := ["_law_script", "_law_cell", "_law_kind", "_law_due"]
def t_law_k08 (K : PySem.W.Frag) (cs : Cs) : TS :=
  (tSeq (tFor (iList K (tVar 0)) (gName 1) (tSeq (tAsg (tOp rModI (tVar 1) (tC (.int 4))) (gName 2))
  (tSeq (tAsg (tLst (tCons (tOp rEq (tVar 2) (tC (.int 0))) (tCons (tOp rEq (tVar 2) (tC (.int 1))) (tCons (tOp rEq (tVar 2) (tC (.int 2))) (tCons (tOp rEq (tVar 2) (tC (.int 3))) (tCons (tC (.bl true)) tNil)))))) (gName 3))
  (tIfS (tTest (tOp (rNeD K) (tCall (sp_l_told_k08 K cs) [] E0 (tCons (tVar 2) (tCons (tOp rModI (tOp rDivI (tVar 1) (tC (.int 4))) (tC (.int 100000))) (tCons (tOp rModI (tOp rDivI (tVar 1) (tC (.int 400000))) (tC (.int 1000))) tNil)))) (tVar 3))) (tRet (tC (.bl false))) tNext))))
  (tSeq (tIfS (tOr (tTest (tOp (rNeD K) (tCall (sp_sums_k08 K cs) [] E0 (tCons (tLst tNil) tNil)) (tLst (tCons (tC (.int 0)) tNil)))) (tOr (tTest (tOp rNe (tCall (sp_how_many_k08 K cs) [] E0 (tCons (tLst tNil) (tCons (tC (.int 0)) tNil))) (tC (.int 0)))) (tTest (tOp rNe (tFld K (tCall (sp_best_k08 K cs) [] E0 (tCons (tLst (tCons (tC (.int 1000000)) (tCons (tUn rNegI (tC (.int 1000000))) tNil))) (tCons (tC (.int 2)) tNil))) "many") (tC (.int 2)))))) (tRet (tC (.bl false))) tNext)
  (tRet (tAndV (tCB (rIsi K) (tCons (tCall (sp_exact_k08 K cs) [] E0 (tCons (tLst (tCons (tC (.int 1)) (tCons (tC (.int 1)) tNil))) (tCons (tOp rPowI (tC (.int 10)) (tC (.int 30))) tNil))) (tCons (tC (.ref cs.Never)) tNil))) (tOp rEq (tFld K (tCall (sp_around_k08 K cs) [] E0 (tCons (tLst (tCons (tUn rNegI (tC (.int 5))) tNil)) tNil)) "many") (tC (.int 1)))))))
end Bs
local macro_rules | `(tactic| walk_at "nn") => `(tactic| first
  | assumption
  | (with_reducible apply Bs.free_of'; (· assumption); (· walk_at "same")))
local macro_rules | `(tactic| walk_at "same") => `(tactic| first
  | assumption
  | exact L2.Same.refl _
  | (with_reducible apply Bs.same_new'; (· assumption); (· walk_at "same"))
  | (with_reducible apply Bs.same_mut'; (· walk_at "nn"); (· walk_at "same"))
  | (with_reducible apply Bs.same_r; (· assumption); (· walk_at "same")))
local macro_rules | `(tactic| walk_at "at") => `(tactic| first
  | assumption
  | with_reducible exact L2.upd_same
  | (with_reducible apply Bs.at_new'; (· assumption); (· walk_at "at"))
  | (with_reducible apply Bs.at_mut; (· walk_at "ne"); (· walk_at "at"))
  | (with_reducible apply Bs.at_same; (· assumption); (· walk_at "at")))
local macro_rules | `(tactic| walk_at "ne") => `(tactic| first
  | assumption
  | (apply Ne.symm; assumption)
  | (with_reducible apply Bs.ne_old; (· assumption); (· walk_at "at"))
  | (apply Ne.symm; (with_reducible apply Bs.ne_old; (· assumption); (· walk_at "at"))))
local macro_rules | `(tactic| walk_at "sq") => `(tactic| first
  | assumption
  | (with_reducible apply L2.SqL.of; walk_at "at")
  | (with_reducible apply Bs.sq_same; (· assumption); (· walk_at "same")))
local macro_rules | `(tactic| walk_at "tq") => `(tactic| first
  | assumption
  | (with_reducible apply L2.SqT.of; walk_at "at")
  | (with_reducible apply Bs.sqt_same; (· assumption); (· walk_at "same")))
local macro_rules | `(tactic| walk_at "rd") => `(tactic| first
  | assumption
  | (with_reducible apply L2.Rd.of; walk_at "at")
  | (apply Bs.rd_frz; assumption))
local macro_rules | `(tactic| walk_at "om") => `(tactic| first
  | assumption
  | omega
  | (simp only [List.length_map, List.length_append, List.length_cons, List.length_nil, List.length_reverse, List.length_range, Bs.psums_length, Bs.psumsTo_length, Bs.lrow_length] at *; omega))
local macro_rules | `(tactic| walk_at "cl") => `(tactic| first
  | assumption
  | exact Bs.OkBest.cl (by assumption)
  | exact Bs.OkSteep.cl (by assumption)
  | exact Bs.OkAround.cl (by assumption)
  | exact Bs.OkExact.cl (by assumption)
  | exact Bs.OkNever.cl (by assumption)
  | exact Bs.OkSeveral.cl (by assumption))
local macro_rules | `(tactic| walk_at "na") => `(tactic| first
  | assumption
  | exact Bs.OkBest.first (by assumption)
  | exact Bs.OkBest.many (by assumption)
  | exact Bs.OkBest.lows (by assumption)
  | exact Bs.OkSteep.first (by assumption)
  | exact Bs.OkSteep.many (by assumption)
  | exact Bs.OkSteep.lows (by assumption)
  | exact Bs.OkAround.first (by assumption)
  | exact Bs.OkAround.many (by assumption)
  | exact Bs.OkAround.lows (by assumption)
  | exact Bs.OkAround.tops (by assumption)
  | exact Bs.OkExact.first (by assumption)
  | exact Bs.OkExact.many (by assumption)
  | exact Bs.OkNever.table (by assumption)
  | exact Bs.OkSeveral.stretches (by assumption)
  | exact Bs.OkSeveral.price (by assumption)
  | exact Bs.OkSeveral.outs (by assumption)
  | exact Bs.OkSeveral.ins (by assumption))
local macro_rules | `(tactic| walk_at "lk") => `(tactic| first
  | with_reducible exact Bs.lk_Best_first
  | with_reducible exact Bs.lk_Best_many
  | with_reducible exact Bs.lk_Best_lows
  | with_reducible exact Bs.lk_Steep_first
  | with_reducible exact Bs.lk_Steep_many
  | with_reducible exact Bs.lk_Steep_lows
  | with_reducible exact Bs.lk_Around_first
  | with_reducible exact Bs.lk_Around_many
  | with_reducible exact Bs.lk_Around_lows
  | with_reducible exact Bs.lk_Around_tops
  | with_reducible exact Bs.lk_Exact_first
  | with_reducible exact Bs.lk_Exact_many
  | with_reducible exact Bs.lk_Never_table
  | with_reducible exact Bs.lk_Several_stretches
  | with_reducible exact Bs.lk_Several_price
  | with_reducible exact Bs.lk_Several_outs
  | with_reducible exact Bs.lk_Several_ins)
local macro_rules | `(tactic| walk_at "no") => `(tactic| first
  | with_reducible exact Bs.no_Best_shows
  | with_reducible exact Bs.no_Steep_shows
  | with_reducible exact Bs.no_Around_shows
  | with_reducible exact Bs.no_Exact_shows
  | with_reducible exact Bs.no_Never_shows
  | with_reducible exact Bs.no_Several_shows
  | with_reducible exact Bs.no_Several_bounds)
local macro_rules | `(tactic| walk_at "hc") => `(tactic| simp only [decide_eq_true_eq, decide_eq_false_iff_not, Bool.not_eq_true', Bool.not_eq_false', Bool.and_eq_true, Bool.or_eq_true, Bool.or_eq_false_iff, Bool.and_eq_false_iff, Bool.not_true, Bool.not_false, Int.not_lt, Int.not_le] at *)
local macro_rules | `(tactic| walk_at "stp") => `(tactic| first
  | (with_reducible apply Bs.wp_var; (· with_unfolding_all rfl))
  | with_reducible refine Bs.wp_c ?_
  | with_reducible refine Bs.wp_op ?_
  | with_reducible refine Bs.wp_cons ?_
  | with_reducible refine Bs.wp_nil ?_
  | with_reducible refine Bs.wp_seq ?_
  | with_reducible refine Bs.wp_asgN ?_
  | (with_reducible apply Bs.wp_kSet; (· (simp only [List.set_cons_succ, List.set_cons_zero]; exact rfl)))
  | with_reducible refine Bs.wp_nx ?_
  | with_reducible refine Bs.wp_next ?_
  | with_reducible refine Bs.wp_ret ?_
  | with_reducible refine Bs.wp_rt ?_
  | with_reducible refine Bs.wp_drop ?_
  | with_reducible refine Bs.wp_kDrop ?_
  | with_reducible refine Bs.wp_addI ?_
  | with_reducible refine Bs.wp_subI ?_
  | with_reducible refine Bs.wp_un ?_
  | with_reducible refine Bs.wp_negI ?_
  | with_reducible refine Bs.wp_ltI ?_
  | with_reducible refine Bs.wp_leI ?_
  | with_reducible refine Bs.wp_gtI ?_
  | with_reducible refine Bs.wp_geI ?_
  | with_reducible refine Bs.wp_eqI ?_
  | with_reducible refine Bs.wp_neI ?_
  | with_reducible refine Bs.wp_eqB ?_
  | with_reducible refine Bs.wp_neB ?_
  | with_reducible refine Bs.wp_isB ?_
  | with_reducible refine Bs.wp_ntB ?_
  | with_reducible refine Bs.wp_test ?_
  | with_reducible refine Bs.wp_tB ?_
  | with_reducible refine Bs.wp_kB ?_
  | with_reducible refine Bs.wp_not ?_
  | with_reducible refine Bs.kNot_t ?_
  | with_reducible refine Bs.kNot_f ?_
  | with_reducible refine Bs.wp_kNot ?_
  | with_reducible refine Bs.wp_and ?_
  | with_reducible refine Bs.wp_or ?_
  | with_reducible refine Bs.wp_andV ?_
  | with_reducible refine Bs.wp_orV ?_
  | with_reducible refine Bs.wp_notV ?_
  | with_reducible refine Bs.kNotV_t ?_
  | with_reducible refine Bs.kNotV_f ?_
  | with_reducible refine Bs.wp_kNotV ?_
  | with_reducible refine Bs.kOr_f ?_
  | with_reducible refine Bs.kOr_nt ?_
  | with_reducible refine Bs.kOr_t ?_
  | with_reducible refine Bs.kOr_nf ?_
  | with_reducible refine Bs.kAnd_t ?_
  | with_reducible refine Bs.kAnd_nf ?_
  | with_reducible refine Bs.kAnd_f ?_
  | with_reducible refine Bs.kAnd_nt ?_
  | with_reducible refine Bs.kOrV_f ?_
  | with_reducible refine Bs.kOrV_nt ?_
  | with_reducible refine Bs.kAndV_t ?_
  | with_reducible refine Bs.kAndV_nf ?_
  | with_reducible refine Bs.kAndV_f ?_
  | with_reducible refine Bs.kIfS_t ?_
  | with_reducible refine Bs.kIfS_nf ?_
  | with_reducible refine Bs.kIfS_f ?_
  | with_reducible refine Bs.kIfS_nt ?_
  | with_reducible refine Bs.wp_chain ?_
  | with_reducible refine Bs.wp_ifE ?_
  | with_reducible refine Bs.wp_ifS ?_
  | with_reducible refine Bs.wp_asg ?_
  | with_reducible refine Bs.wp_kAsg ?_
  | (with_reducible apply Bs.wp_modI; (· walk_at "om"))
  | (with_reducible apply Bs.wp_divI; (· walk_at "om"))
  | with_reducible refine Bs.wp_call ?_
  | with_reducible refine Bs.wp_kCall ?_
  | with_reducible refine Bs.wp_tCB ?_
  | with_reducible refine Bs.wp_kCB ?_
  | (with_reducible apply Bs.wp_lenI; (· walk_at "sq"))
  | (with_reducible apply Bs.wp_len; (· walk_at "sq"))
  | (with_reducible apply Bs.wp_lenT; (· walk_at "tq"))
  | (with_reducible apply Bs.wp_ixT0; (· walk_at "tq"))
  | (with_reducible apply Bs.wp_ixT1; (· walk_at "tq"))
  | (with_reducible apply Bs.wp_ixT2; (· walk_at "tq"))
  | (with_reducible apply Bs.wp_sum; (· walk_at "sq"))
  | (with_reducible apply Bs.wp_ixL; (· walk_at "sq"); (· walk_at "om"); (· walk_at "om"))
  | (with_reducible apply Bs.wp_ixN; (· walk_at "sq"); (· walk_at "om"); (· walk_at "om"))
  | (with_reducible apply Bs.wp_appI; (· walk_at "at"); (· walk_at "om"))
  | (with_reducible apply Bs.wp_app; (· walk_at "at"); (· walk_at "om"))
  | with_reducible refine Bs.wp_tBM ?_
  | (with_reducible apply Bs.wp_kBM; (· walk_at "at"))
  | with_reducible refine Bs.wp_tBM0 ?_
  | (with_reducible apply Bs.wp_kBM0; (· walk_at "at"))
  | with_reducible refine Bs.wp_lst ?_
  | with_reducible refine Bs.wp_tup ?_
  | with_reducible refine Bs.wp_sl ?_
  | with_reducible refine Bs.wp_part ?_
  | with_reducible refine Bs.wp_kPart ?_
  | with_reducible refine Bs.wp_noPart ?_
  | with_reducible refine Bs.wp_rev ?_
  | with_reducible refine Bs.wp_max2 ?_
  | with_reducible refine Bs.wp_min2 ?_
  | (with_reducible apply Bs.wp_eqL; (· walk_at "sq"); (· walk_at "sq"))
  | (with_reducible apply Bs.wp_neL; (· walk_at "sq"); (· walk_at "sq"))
  | with_reducible refine Bs.wp_for ?_
  | with_reducible refine Bs.wp_lc ?_
  | with_reducible refine Bs.wp_tYes ?_
  | with_reducible refine Bs.wp_iList ?_
  | (with_reducible apply Bs.wp_kIList; (· walk_at "sq"))
  | with_reducible refine Bs.wp_iRng1 ?_
  | (with_reducible apply Bs.wp_kRng1; (· walk_at "om"))
  | with_reducible refine Bs.wp_iRng2 ?_
  | (with_reducible apply Bs.wp_kRng2; (· walk_at "om"); (· walk_at "om"))
  | with_reducible refine Bs.wp_iRevR1 ?_
  | (with_reducible apply Bs.wp_kRev1; (· walk_at "om"))
  | with_reducible refine Bs.wp_iEnum ?_
  | (with_reducible apply Bs.wp_kEnum; (· walk_at "sq"))
  | (with_reducible apply Bs.wp_gName; (· (simp only [List.set_cons_succ, List.set_cons_zero]; exact rfl)))
  | (with_reducible apply Bs.wp_gTup; (· walk_at "tq"); (· with_unfolding_all rfl))
  | with_reducible refine Bs.wp_gCons ?_
  | with_reducible refine Bs.wp_gNil ?_
  | (with_reducible apply Bs.wp_all; (· walk_at "at"))
  | (with_reducible apply Bs.wp_any; (· walk_at "at"))
  | with_reducible refine Bs.isi_int ?_
  | with_reducible refine Bs.isi_int_bool ?_
  | with_reducible refine Bs.isi_bool ?_
  | (with_reducible apply Bs.isi_list; (· walk_at "at"))
  | (with_reducible apply Bs.isi_tup; (· walk_at "at"))
  | with_reducible refine Bs.wp_dget2 ?_
  | (with_reducible apply Bs.wp_kD2; (· walk_at "at"); (· intro Q1 hq; (repeat walk_at "stp"); exact hq); (· intro Q1 hq; (repeat walk_at "stp"); exact hq))
  | with_reducible refine Bs.wp_dput ?_
  | with_reducible refine Bs.wp_kPut ?_
  | (with_reducible apply Bs.wp_kPut2; (· walk_at "at"); (· walk_at "om"))
  | with_reducible refine Bs.wp_dnew ?_
  | with_reducible refine Bs.wp_din ?_
  | with_reducible refine Bs.wp_dnin ?_
  | (with_reducible apply Bs.wp_kIn; (· walk_at "rd"))
  | (with_reducible apply Bs.wp_kNin; (· walk_at "rd"))
  | with_reducible refine Bs.wp_dget ?_
  | (with_reducible apply Bs.wp_kGet; (· walk_at "rd"); (· assumption))
  | with_reducible refine Bs.wp_fld ?_
  | (with_reducible apply Bs.wp_kFld; (· walk_at "at"); (· walk_at "cl"); (· walk_at "na"); (· walk_at "lk"))
  | with_reducible refine Bs.wp_sfld ?_
  | with_reducible refine Bs.wp_meth ?_
  | (with_reducible apply Bs.wp_kMeth; (· walk_at "at"); (· walk_at "no"))
  | with_reducible refine Bs.wp_kCallM ?_
  | with_reducible refine Bs.wp_make ?_
  | (with_reducible apply Bs.wp_slI; (· walk_at "sq"); intro _ _)
  | (with_reducible apply Bs.wp_catI; (· walk_at "at"); (· walk_at "at"); (· walk_at "om"); intro _ _)
  | (with_reducible apply Bs.isi_own'; (· walk_at "at"); (· assumption); (· assumption))
  | with_reducible refine Bs.call_is_number ?_
  | with_reducible refine Bs.call_is_there ?_
  | with_reducible refine Bs.call_l_there ?_
  | (with_reducible apply Bs.wp_kAnd; (· intro hc Q1 hq; (try walk_at "hc"); (repeat walk_at "stp"); exact hq))
  | (with_reducible apply Bs.wp_kOr; (· intro hc Q1 hq; (try walk_at "hc"); (repeat walk_at "stp"); exact hq))
  | (with_reducible apply Bs.wp_kAndV; (· intro hc Q1 hq; (try walk_at "hc"); (repeat walk_at "stp"); exact hq))
  | (with_reducible apply Bs.wp_kOrV; (· intro hc Q1 hq; (try walk_at "hc"); (repeat walk_at "stp"); exact hq))
  | (with_reducible apply Bs.wp_kChain; (· intro hc Q1 hq; (try walk_at "hc"); (repeat walk_at "stp"); exact hq)))
local macro_rules | `(tactic| walk_at "go") => `(tactic| repeat walk_at "stp")
local macro_rules | `(tactic| walk_at "sf") => `(tactic| first
  | with_reducible refine Bs.wp_appS ?_
  | (with_reducible apply Bs.wp_slF; (· walk_at "sq"); intro _ _ _ _ _)
  | (with_reducible apply Bs.wp_catF; (· walk_at "at"); (· walk_at "at"); (· walk_at "om"); intro _ _ _ _ _)
  | with_reducible refine Bs.wp_slSt ?_
  | with_reducible refine Bs.wp_gSub ?_
  | walk_at "stp")
local macro_rules | `(tactic| walk_at "gf") => `(tactic| repeat walk_at "sf")
namespace Bs
open PySem L2
theorem pure_Around_init {K : PySem.W.Frag} {cs : Cs} {vs : List V} {H : Hp} {Q : VK} {E : XK} (c : OkAround K cs.Around) (h : sp_Around_init K cs vs H Q E) : t_Around_init K cs { nx := fun _ H' => Q .non H', rt := Q } (start N_Around_init vs) H := by
  obtain ⟨p, dx, a, b, f, m, ns, ms, rfl, hp, ha, hb, k⟩ := h
  have hpa : a ≠ p := ne_of ha hp (by intro z; cases z)
  have hpb : b ≠ p := ne_of hb hp (by intro z; cases z)
  unfold t_Around_init
  show (_ : TS) _ [some (.ref p), some (.int f), some (.int m), some (.ref a), some (.ref b)] H
  walk_at "go"
  refine wp_kPutF hp c.cl c.first (by show 0 < 1000; decide) (pt_Around_first (x0 := f)) ?_
  walk_at "go"
  refine wp_kPutF upd_same c.cl c.many (by show 1 < 1000; decide) (pt_Around_many (x0 := f) (x1 := m)) ?_
  walk_at "go"
  refine wp_list (xs := ns.map V.int) (SqL.of (by walk_at "at")) fun l nl => ?_
  have hpl : p ≠ l := ne_of_none upd_same nl
  have hbl : b ≠ l := ne_of_none (by walk_at "at") nl
  walk_at "go"
  refine wp_kPutF (at_new upd_same nl) c.cl c.lows (by show 2 < 1000; decide) (pt_Around_lows (x0 := f) (x1 := m) (x2 := l)) ?_
  walk_at "go"
  refine wp_list (xs := ms.map V.int) (SqL.of (by walk_at "at")) fun t nt => ?_
  have hpt : p ≠ t := ne_of_none upd_same nt
  have hlp : l ≠ p := Ne.symm hpl
  have htp : t ≠ p := Ne.symm hpt
  have htl : l ≠ t := ne_of_none (by walk_at "at") nt
  walk_at "go"
  refine wp_kPutF (at_new upd_same nt) c.cl c.tops (by show 3 < 1000; decide) (pt_Around_tops (x0 := f) (x1 := m) (x2 := l) (x3 := t)) ?_
  walk_at "go"
  rw [upd_ne hlp, upd_ne hlp] at nl
  rw [upd_ne htp, upd_ne (Ne.symm htl), upd_ne htp, upd_ne htp] at nt
  refine k l t _ nl nt htl (fun b o e hb => ?_) upd_same (by rw [upd_ne hlp, upd_ne htl, upd_ne hlp, upd_same]) (by rw [upd_ne htp, upd_same])
  rw [upd_ne hb, upd_ne (ne_of_none e nt), upd_ne hb, upd_ne (ne_of_none e nl), upd_ne hb, upd_ne hb]
  exact e
theorem pure_is_number_k08 {K : PySem.W.Frag} {cs : Cs} {vs : List V} {H : Hp} {Q : VK} {E : XK} (h : sp_is_number_k08 K cs vs H Q E) : t_is_number_k08 K cs { nx := fun _ H' => Q .non H', rt := Q } (start N_is_number_k08 vs) H := by
  obtain ⟨v, rfl, h⟩ := h
  unfold t_is_number_k08
  show (_ : TS) _ [some v] H
  rcases h with ⟨i, rfl, k⟩ | ⟨n, k⟩
  · walk_at "go"
    exact k
  · walk_at "go"
    cases n with
    | non =>
      refine isiF (c := false) .non (kit_ty (by decide +kernel)) ?_
      walk_at "go"
      exact k
    | bl b =>
      refine isiF (c := true) (.bl b) (kit_ty (by decide +kernel)) ?_
      walk_at "go"
      exact k
    | str x =>
      refine isiF (c := false) (.str x) (kit_ty (by decide +kernel)) ?_
      walk_at "go"
      exact k
    | lst h =>
      refine isiF (c := false) (.lst h) (kit_ty (by decide +kernel)) ?_
      walk_at "go"
      exact k
    | tup h =>
      refine isiF (c := false) (.tup h) (kit_ty (by decide +kernel)) ?_
      walk_at "go"
      exact k
    | dk h =>
      refine isiF (c := false) (.dK h) (kit_ty (by decide +kernel)) ?_
      walk_at "go"
      exact k
theorem pure_asked_least_k08 {K : PySem.W.Frag} {cs : Cs} {vs : List V} {H : Hp} {Q : VK} {E : XK} (h : sp_asked_least_k08 K cs vs H Q E) : t_asked_least_k08 K cs E { nx := fun _ H' => Q .non H', rt := Q } (start N_asked_least_k08 vs) H := by
  obtain ⟨a, ns, v, rfl, ha, h⟩ := h
  unfold t_asked_least_k08
  show (_ : TS) _ [some (.ref a), some v] H
  walk_at "go"
  rcases h with ⟨i, rfl, h1, h2, k⟩ | ⟨⟨i, rfl, h1⟩ | n, k⟩
  · refine ⟨_, rfl, .inl ⟨i, rfl, ?_⟩⟩
    walk_at "go"
    have e : (!(decide (1 ≤ i) && decide (i ≤ (ns.length : Int)))) = false := by simp; omega
    rw [e]
    walk_at "go"
    exact k
  · refine ⟨_, rfl, .inl ⟨i, rfl, ?_⟩⟩
    walk_at "go"
    have e : (!(decide (1 ≤ i) && decide (i ≤ (ns.length : Int)))) = true := by simp; omega
    rw [e]
    walk_at "go"
    exact wp_rz k
  · refine ⟨_, rfl, .inr ⟨n, ?_⟩⟩
    walk_at "go"
    exact wp_rz k
theorem pure_asked_row_k08 {K : PySem.W.Frag} {cs : Cs} {vs : List V} {H : Hp} {Q : VK} {E : XK} (h : sp_asked_row_k08 K cs vs H Q E) : t_asked_row_k08 K cs E { nx := fun _ H' => Q .non H', rt := Q } (start N_asked_row_k08 vs) H := by
  obtain ⟨v, rfl, h⟩ := h
  unfold t_asked_row_k08
  show (_ : TS) _ [some v, none] H
  rcases h with ⟨a, ns, rfl, ha, hr, hl, k⟩ | ⟨h, k⟩
  · walk_at "go"
    refine lcV (xs := ns.map V.int) (fun x => .bl (okV x)) (by walk_at "sq") (by rw [List.length_map]; omega) (fun _ => rfl) (fun x H1 hx s1 Q' hq => ?_) (fun p H1 np s1 hp => ?_)
    · obtain ⟨i, hi, rfl⟩ := List.mem_map.mp hx
      show (_ : TE) [some (.ref a), some (.int i)] H1 Q'
      walk_at "go"
      refine ⟨_, rfl, .inl ⟨i, rfl, ?_⟩⟩
      walk_at "go"
      exact hq _ (Same.refl _)
    · have hp' : H1 p = some (.lst ((ns.map fun i => okV (.int i)).map V.bl)) := by
        rw [hp, List.map_map, List.map_map]
        rfl
      walk_at "go"
      have e : (List.map (fun i => okV (.int i)) ns).all id = true := by
        rw [List.all_map, List.all_eq_true]
        intro i hi
        have := hr i hi
        show (decide (-1000000 ≤ i) && decide (i ≤ 1000000)) = true
        simp [this.1, this.2]
      rw [e]
      walk_at "go"
      exact k _ s1
  · walk_at "go"
    rcases h with rfl | ⟨x, rfl⟩ | ⟨i, rfl⟩ | ⟨a, xs, rfl, ha⟩ | ⟨a, ns, x, rfl, ha, hl, hb⟩
    · refine isiF (c := false) .non (kit_ty (by decide +kernel)) ?_
      walk_at "go"
      exact wp_rz (k _ (Same.refl _))
    · refine isiF (c := false) (.str x) (kit_ty (by decide +kernel)) ?_
      walk_at "go"
      exact wp_rz (k _ (Same.refl _))
    · refine isiF (c := false) (.int i) (kit_ty (by decide +kernel)) ?_
      walk_at "go"
      exact wp_rz (k _ (Same.refl _))
    · refine isiF (c := false) (.tup ha) (kit_ty (by decide +kernel)) ?_
      walk_at "go"
      exact wp_rz (k _ (Same.refl _))
    · walk_at "go"
      refine lcV (xs := ns.map V.int ++ [x]) (fun x => .bl (okV x)) (by walk_at "sq") (by rw [List.length_append, List.length_map, List.length_singleton]; omega) (fun _ => rfl) (fun y H1 hy s1 Q' hq => ?_) (fun p H1 np s1 hp => ?_)
      · show (_ : TE) [some (.ref a), some y] H1 Q'
        walk_at "go"
        have num : ∀ i : Int, y = .int i → ∃ v : V, [y] = [v] ∧ ((∃ i : Int, v = .int i ∧ True) ∨ (NotNum H1 v ∧ False)) := fun i e => ⟨_, rfl, .inl ⟨i, e, trivial⟩⟩
        rcases List.mem_append.mp hy with hy | hy
        · obtain ⟨i, hi, rfl⟩ := List.mem_map.mp hy
          refine ⟨_, rfl, .inl ⟨i, rfl, ?_⟩⟩
          walk_at "go"
          exact hq _ (Same.refl _)
        · rw [List.mem_singleton] at hy
          subst hy
          rcases hb with ⟨i, rfl, _⟩ | rfl | ⟨b, rfl⟩ | ⟨z, rfl⟩
          · refine ⟨_, rfl, .inl ⟨i, rfl, ?_⟩⟩
            walk_at "go"
            exact hq _ (Same.refl _)
          · refine ⟨_, rfl, .inr ⟨.non, ?_⟩⟩
            walk_at "go"
            exact hq _ (Same.refl _)
          · refine ⟨_, rfl, .inr ⟨.bl b, ?_⟩⟩
            walk_at "go"
            exact hq _ (Same.refl _)
          · refine ⟨_, rfl, .inr ⟨.str z, ?_⟩⟩
            walk_at "go"
            exact hq _ (Same.refl _)
      · have hp' : H1 p = some (.lst (((ns.map V.int ++ [x]).map okV).map V.bl)) := by
          rw [hp, List.map_map]
          rfl
        walk_at "go"
        have e : (List.map okV (ns.map V.int ++ [x])).all id = false := by
          rw [List.all_map, List.all_append]
          simp [hb.ok]
        rw [e]
        walk_at "go"
        exact wp_rz (k _ s1)
theorem pure_summed {K : PySem.W.Frag} {cs : Cs} {vs : List V} {H : Hp} {Q : VK} {E : XK} (h : sp_summed K cs vs H Q E) : t_summed K cs { nx := fun _ H' => Q .non H', rt := Q } (start N_summed vs) H := by
  obtain ⟨a, ns, rfl, ha, hl, k⟩ := h
  unfold t_summed
  show (_ : TS) _ [some (.ref a), none, none] H
  walk_at "go"
  refine wp_lst1 fun p np => ?_
  walk_at "go"
  refine forI (ns := ns) (fun i σ H' => ∃ v, σ = [some (.ref a), some (.ref p), v] ∧ Same H H' ∧ H' p = some (.lst ((psumsTo ns i).map V.int))) ⟨_, rfl, by walk_at "same", by rw [psumsTo_zero]; exact upd_same⟩ (fun i σ H' _ h => ?_) (fun i σ H' hi h => ?_) (fun σ H' h => ?_)
  · obtain ⟨_, _, s, _⟩ := h
    walk_at "sq"
  · obtain ⟨_, rfl, s, hp⟩ := h
    walk_at "go"
    refine ⟨_, rfl, by walk_at "same", ?_⟩
    rw [psumsTo_succ hi]
    have e : nth (psumsTo ns i) (-1 + ((psumsTo ns i).length : Int)) = pre ns i := by
      rw [psumsTo_length, show (-1 + ((i + 1 : Nat) : Int)) = ((i : Nat) : Int) by omega, nth_psumsTo ns (Nat.le_refl _)]
    rw [e]
    exact upd_same
  · obtain ⟨_, rfl, s, hp⟩ := h
    walk_at "go"
    exact k p H' np s (by rw [hp, psumsTo_all])
theorem pure_best_of {K : PySem.W.Frag} {cs : Cs} {vs : List V} {H : Hp} {Q : VK} {E : XK} (h : sp_best_of K cs vs H Q E) : t_best_of K cs { nx := fun _ H' => Q .non H', rt := Q } (start N_best_of vs) H := by
  obtain ⟨a, ns, l, rfl, ha, h1, h2, hz, k⟩ := h
  unfold t_best_of
  show (_ : TS) _ [some (.ref a), some (.int l), none, none, none, none, none, none] H
  walk_at "go"
  refine ⟨a, ns, rfl, by walk_at "at", hz, fun t H1 nt s1 ht => ?_⟩
  have hps := psums_length ns
  walk_at "go"
  refine wp_lst0 fun lw nlw => ?_
  walk_at "go"
  refine forN (fun i σ H' => ∃ low f m v ls, σ = [some (.ref a), some (.int l), some (.ref t), some (.ref lw), some (.int low), some (.int f), some (.int m), v] ∧ Same H1 H' ∧ H' lw = some (.lst (ls.map V.int)) ∧ BestTo (psums ns) l i ls low f m)
    ⟨0, 0, l, _, [], rfl, by walk_at "same", upd_same, bestTo_zero (by omega) (by omega)⟩ (fun i σ H' hi h => ?_) (fun σ H' h => ?_)
  · obtain ⟨low, f, m, v, ls, rfl, s2, hlw, B⟩ := h
    have b1 := B.l0; have b2 := B.li; have b3 := B.f0; have b4 := B.m0; have b5 := B.fm; have b6 := B.ln
    have nlw1 : H1 lw = none := nlw
    rw [Int.zero_add]
    walk_at "go"
    refine wp_kIfSetI (by with_unfolding_all rfl) (fun _ Q1 hq => by walk_at "go"; exact hq) (fun low' el => ?_)
    simp only [decide_eq_true_eq, List.set_cons_succ, List.set_cons_zero] at el ⊢
    have bl : 0 ≤ low' ∧ low' ≤ i := by
      rw [el]
      split <;> omega
    obtain ⟨bl1, bl2⟩ := bl
    walk_at "go"
    refine wp_kIfS (fun hc => ?_) (fun hc => ?_)
    · simp only [decide_eq_true_eq] at hc
      walk_at "go"
      exact ⟨low', low', (i : Int) + l - low', _, _, rfl, by walk_at "same", upd_same, bestTo_step B (by omega) (by omega) el (by rw [if_pos hc]) (by rw [if_pos hc])⟩
    · simp only [decide_eq_false_iff_not] at hc
      walk_at "go"
      exact ⟨low', f, m, _, _, rfl, by walk_at "same", upd_same, bestTo_step B (by omega) (by omega) el (by rw [if_neg hc]) (by rw [if_neg hc])⟩
  · obtain ⟨low, f, m, v, ls, rfl, s2, hlw, B⟩ := h
    walk_at "go"
    refine wp_kTup (by show 3 ≤ 100000; decide) fun T nT => ?_
    walk_at "go"
    exact k T lw f m ls _ (bestTo_end B (by omega) (by omega)) (by walk_at "nn") (by walk_at "same") upd_same (by walk_at "at")
theorem good_around_k08 {K : PySem.W.Frag} {cs : Cs} {vs : List V} {H : Hp} {Q : VK} {E : XK} (h : sp_around K cs vs H Q E) : t_around_k08 K cs E { nx := fun _ H' => Q .non H', rt := Q } (start N_around_k08 vs) H := by
  obtain ⟨a, ns, rfl, ha, hr, h1, hz, k⟩ := h
  unfold t_around_k08
  show (_ : TS) _ [some (.ref a), none, none, none, none, none, none, none, none, none] H
  walk_at "go"
  refine wp_callS ?_
  walk_at "go"
  refine wp_kCallS ?_
  refine ⟨_, rfl, .inl ⟨a, ns, rfl, by walk_at "at", hr, by omega, fun H1 s1 => ?_⟩⟩
  walk_at "go"
  refine wp_callS ?_
  walk_at "go"
  refine wp_kCallS ?_
  refine ⟨a, ns, _, rfl, by walk_at "at", .inl ⟨1, rfl, by omega, by omega, ?_⟩⟩
  walk_at "go"
  refine ⟨a, ns, 1, rfl, by walk_at "at", by omega, by omega, hz, fun T lw f m ls H2 B nlw s2 hT hlw => ?_⟩
  have b1 := B.f0; have b2 := B.m0; have b3 := B.fm
  walk_at "go"
  refine wp_lst0 fun t0 nt0 => ?_
  walk_at "go"
  show kIfS _ _ _ [some (.ref a), some (.int (segS ns f m)), some (.ref t0), some (.int f), some (.int m), some (.ref lw), none, none, none, none] _ _
  refine wp_kIfS (fun hc => ?_) (fun hc => ?_)
  · simp only [decide_eq_true_eq] at hc
    walk_at "go"
    have hcw := cut_within_len ns
    refine lcI_int (ns := cut ns (some 1) (some (-1))) (fun y => -y) (by walk_at "sq") (by omega) (fun _ => rfl) (fun j H8 hj s8 Q1 hq => ?_) (fun b H8 nb s8 hb => ?_)
    · show (_ : TE) [some (.ref a), some (.int (segS ns f m)), some (.ref t0), some (.int f), some (.int m), some (.ref lw), none, none, none, some (.int (nth (cut ns (some 1) (some (-1))) j))] H8 Q1
      walk_at "go"
      exact hq _ (Same.refl _)
    · have hb' : H8 b = some (.lst ((within ns).map V.int)) := hb
      have hw := within_le ns
      have hwl := within_length h1
      walk_at "go"
      refine ⟨b, within ns, 1, rfl, by walk_at "at", by omega, by omega, by omega, fun T2 tp i c ts H3 W ntp s3 hT2 htp => ?_⟩
      have w1 := W.f0; have w2 := W.m0; have w3 := W.fm
      walk_at "go"
      refine wp_kIfS (fun hd => ?_) (fun hd => ?_)
      · simp only [decide_eq_true_eq] at hd
        walk_at "go"
        refine make_Around (by walk_at "at") (by walk_at "at") fun x dx l2 t2 H4 nx nl2 nt2 nlt s4 hx hl2 ht2 => ?_
        walk_at "go"
        exact k x dx l2 t2 _ _ ls ts H4 (around_wrap (by omega) B W hd) (by walk_at "nn") (by walk_at "nn") (by walk_at "nn") nlt (by walk_at "same") hx hl2 ht2
      · simp only [decide_eq_false_iff_not] at hd
        walk_at "go"
        refine make_Around (by walk_at "at") (by walk_at "at") fun x dx l2 t2 H4 nx nl2 nt2 nlt s4 hx hl2 ht2 => ?_
        walk_at "go"
        exact k x dx l2 t2 _ _ ls ts H4 (around_flat (by omega) B W hd) (by walk_at "nn") (by walk_at "nn") (by walk_at "nn") nlt (by walk_at "same") hx hl2 ht2
  · simp only [decide_eq_false_iff_not] at hc
    walk_at "go"
    refine make_Around (by walk_at "at") (by walk_at "at") fun x dx l2 t2 H4 nx nl2 nt2 nlt s4 hx hl2 ht2 => ?_
    walk_at "go"
    exact k x dx l2 t2 _ _ ls [] H4 (around_small h1 (by omega) B) (by walk_at "nn") (by walk_at "nn") (by walk_at "nn") nlt (by walk_at "same") hx hl2 ht2
theorem pure_around_k08 {K : PySem.W.Frag} {cs : Cs} {vs : List V} {H : Hp} {Q : VK} {E : XK} (h : sp_around_k08 K cs vs H Q E) : t_around_k08 K cs E { nx := fun _ H' => Q .non H', rt := Q } (start N_around_k08 vs) H := by
  rcases h with h | h | h
  · exact good_around_k08 h
  · obtain ⟨v, rfl, hb, k⟩ := h
    unfold t_around_k08
    show (_ : TS) _ [some v, none, none, none, none, none, none, none, none, none] H
    walk_at "go"
    refine wp_callS ?_
    walk_at "go"
    refine wp_kCallS ?_
    exact ⟨_, rfl, .inr ⟨hb, k⟩⟩
  · obtain ⟨a, rfl, ha, k⟩ := h
    unfold t_around_k08
    show (_ : TS) _ [some (.ref a), none, none, none, none, none, none, none, none, none] H
    walk_at "go"
    refine wp_callS ?_
    walk_at "go"
    refine wp_kCallS ?_
    refine ⟨_, rfl, .inl ⟨a, [], rfl, by walk_at "at", (fun z hz => by cases hz), by show 0 ≤ 1000; decide, fun H1 s1 => ?_⟩⟩
    walk_at "go"
    refine wp_callS ?_
    walk_at "go"
    refine wp_kCallS ?_
    exact ⟨a, [], _, rfl, s1 _ _ ha, .inr ⟨.inl ⟨1, rfl, by show ¬ (1 ≤ (1 : Int) ∧ (1 : Int) ≤ 0); decide⟩, k _ s1⟩⟩
theorem pure_Best_init {K : PySem.W.Frag} {cs : Cs} {vs : List V} {H : Hp} {Q : VK} {E : XK} (c : OkBest K cs.Best) (h : sp_Best_init K cs vs H Q E) : t_Best_init K cs { nx := fun _ H' => Q .non H', rt := Q } (start N_Best_init vs) H := by
  obtain ⟨p, dx, a, f, m, ns, rfl, hp, ha, k⟩ := h
  have hpa : a ≠ p := ne_of ha hp (by intro z; cases z)
  unfold t_Best_init
  show (_ : TS) _ [some (.ref p), some (.int f), some (.int m), some (.ref a)] H
  walk_at "go"
  refine wp_kPutF hp c.cl c.first (by show 0 < 1000; decide) (pt_Best_first (x0 := f)) ?_
  walk_at "go"
  refine wp_kPutF upd_same c.cl c.many (by show 1 < 1000; decide) (pt_Best_many (x0 := f) (x1 := m)) ?_
  walk_at "go"
  refine wp_list (xs := ns.map V.int) (SqL.of (by walk_at "at")) fun l nl => ?_
  have hpl : p ≠ l := ne_of_none upd_same nl
  walk_at "go"
  refine wp_kPutF (at_new upd_same nl) c.cl c.lows (by show 2 < 1000; decide) (pt_Best_lows (x0 := f) (x1 := m) (x2 := l)) ?_
  walk_at "go"
  rw [upd_ne (Ne.symm hpl), upd_ne (Ne.symm hpl)] at nl
  refine k l _ nl (fun b o e hb => ?_) upd_same (by rw [upd_ne (Ne.symm hpl), upd_same])
  rw [upd_ne hb, upd_ne (ne_of_none e nl), upd_ne hb, upd_ne hb]
  exact e
theorem good_best_k08 {K : PySem.W.Frag} {cs : Cs} {vs : List V} {H : Hp} {Q : VK} {E : XK} (h : sp_best K cs vs H Q E) : t_best_k08 K cs E { nx := fun _ H' => Q .non H', rt := Q } (start N_best_k08 vs) H := by
  obtain ⟨a, ns, l, rfl, ha, hr, h1, h2, hz, k⟩ := h
  unfold t_best_k08
  show (_ : TS) _ [some (.ref a), some (.int l), none, none, none] H
  walk_at "go"
  refine wp_callS ?_
  walk_at "go"
  refine wp_kCallS ?_
  refine ⟨_, rfl, .inl ⟨a, ns, rfl, by walk_at "at", hr, by omega, fun H1 s1 => ?_⟩⟩
  walk_at "go"
  refine wp_callS ?_
  walk_at "go"
  refine wp_kCallS ?_
  refine ⟨a, ns, _, rfl, by walk_at "at", .inl ⟨l, rfl, h1, h2, ?_⟩⟩
  walk_at "go"
  refine ⟨a, ns, l, rfl, by walk_at "at", h1, h2, hz, fun T lw f m ls H2 B nlw s2 hT hlw => ?_⟩
  walk_at "go"
  refine make_Best (by walk_at "at") fun x dx l2 H3 nx nl2 nxl s3 hx hl2 => ?_
  walk_at "go"
  exact k x dx l2 f m ls H3 B (by walk_at "nn") (by walk_at "nn") nxl (by walk_at "same") hx hl2
theorem pure_best_k08 {K : PySem.W.Frag} {cs : Cs} {vs : List V} {H : Hp} {Q : VK} {E : XK} (h : sp_best_k08 K cs vs H Q E) : t_best_k08 K cs E { nx := fun _ H' => Q .non H', rt := Q } (start N_best_k08 vs) H := by
  rcases h with h | h | h
  · exact good_best_k08 h
  · obtain ⟨v, w, rfl, hb, k⟩ := h
    unfold t_best_k08
    show (_ : TS) _ [some v, some w, none, none, none] H
    walk_at "go"
    refine wp_callS ?_
    walk_at "go"
    refine wp_kCallS ?_
    exact ⟨_, rfl, .inr ⟨hb, k⟩⟩
  · obtain ⟨a, ns, w, rfl, ha, hr, hz, hb, k⟩ := h
    unfold t_best_k08
    show (_ : TS) _ [some (.ref a), some w, none, none, none] H
    walk_at "go"
    refine wp_callS ?_
    walk_at "go"
    refine wp_kCallS ?_
    refine ⟨_, rfl, .inl ⟨a, ns, rfl, by walk_at "at", hr, hz, fun H1 s1 => ?_⟩⟩
    walk_at "go"
    refine wp_callS ?_
    walk_at "go"
    refine wp_kCallS ?_
    exact ⟨a, ns, w, rfl, s1 _ _ ha, .inr ⟨hb.elim .inl fun z => .inr (z.same s1), k _ s1⟩⟩
theorem pure_Exact_init {K : PySem.W.Frag} {cs : Cs} {vs : List V} {H : Hp} {Q : VK} {E : XK} (c : OkExact K cs.Exact) (h : sp_Exact_init K cs vs H Q E) : t_Exact_init K cs { nx := fun _ H' => Q .non H', rt := Q } (start N_Exact_init vs) H := by
  obtain ⟨p, dx, f, m, rfl, hp, k⟩ := h
  unfold t_Exact_init
  show (_ : TS) _ [some (.ref p), some (.int f), some (.int m)] H
  walk_at "go"
  refine wp_kPutF hp c.cl c.first (by show 0 < 1000; decide) (pt_Exact_first (x0 := f)) ?_
  walk_at "go"
  refine wp_kPutF upd_same c.cl c.many (by show 1 < 1000; decide) (pt_Exact_many (x0 := f) (x1 := m)) ?_
  walk_at "go"
  refine k _ (fun b o e hb => ?_) upd_same
  rw [upd_ne hb, upd_ne hb]
  exact e
theorem pure_Never_init {K : PySem.W.Frag} {cs : Cs} {vs : List V} {H : Hp} {Q : VK} {E : XK} (c : OkNever K cs.Never) (h : sp_Never_init K cs vs H Q E) : t_Never_init K cs { nx := fun _ H' => Q .non H', rt := Q } (start N_Never_init vs) H := by
  obtain ⟨p, dx, a, xs, rfl, hp, ha, k⟩ := h
  have hpa : a ≠ p := ne_of ha hp (by intro z; cases z)
  unfold t_Never_init
  show (_ : TS) _ [some (.ref p), some (.ref a)] H
  walk_at "go"
  refine wp_list (xs := xs) (SqL.of ha) fun t nt => ?_
  walk_at "go"
  refine wp_kPutF (at_new hp nt) c.cl c.table (by show 0 < 1000; decide) (pt_Never_table (x0 := t)) ?_
  walk_at "go"
  have htp : t ≠ p := fun z => by rw [z, hp] at nt; cases nt
  refine k t _ nt (fun b o e hb => ?_) upd_same (by rw [upd_ne htp, upd_same])
  rw [upd_ne hb, upd_ne (ne_of_none e nt)]
  exact e
theorem pure_asked_total_k08 {K : PySem.W.Frag} {cs : Cs} {vs : List V} {H : Hp} {Q : VK} {E : XK} (h : sp_asked_total_k08 K cs vs H Q E) : t_asked_total_k08 K cs E { nx := fun _ H' => Q .non H', rt := Q } (start N_asked_total_k08 vs) H := by
  obtain ⟨v, rfl, h⟩ := h
  unfold t_asked_total_k08
  show (_ : TS) _ [some v] H
  walk_at "go"
  rcases h with ⟨i, rfl, k⟩ | ⟨n, k⟩
  · refine ⟨_, rfl, .inl ⟨i, rfl, ?_⟩⟩
    walk_at "go"
    exact k
  · refine ⟨_, rfl, .inr ⟨n, ?_⟩⟩
    walk_at "go"
    exact wp_rz k
theorem good_exact_k08 {K : PySem.W.Frag} {cs : Cs} {vs : List V} {H : Hp} {Q : VK} {E : XK} (h : sp_exact K cs vs H Q E) : t_exact_k08 K cs E { nx := fun _ H' => Q .non H', rt := Q } (start N_exact_k08 vs) H := by
  obtain ⟨a, ns, t, rfl, ha, hr, hz, kE, kN⟩ := h
  have hps := psums_length ns
  unfold t_exact_k08
  show (_ : TS) _ [some (.ref a), some (.int t), none, none, none, none] H
  walk_at "go"
  refine wp_callS ?_
  walk_at "go"
  refine wp_kCallS ?_
  refine ⟨_, rfl, .inl ⟨a, ns, rfl, by walk_at "at", hr, by omega, fun H1 s1 => ?_⟩⟩
  walk_at "go"
  refine wp_callS ?_
  walk_at "go"
  refine wp_kCallS ?_
  refine ⟨_, rfl, .inl ⟨t, rfl, ?_⟩⟩
  walk_at "go"
  intro d1 nd1
  walk_at "go"
  intro d2 nd2
  have hd12 : d1 ≠ d2 := fun z => by rw [z] at nd2; rw [upd_same] at nd2; cases nd2
  have hdd1 : upd (upd H1 d1 (.dK [])) d2 (.dK []) d1 = some (.dK []) := at_new upd_same nd2
  have nd2' : H1 d2 = none := by rw [upd_ne (Ne.symm hd12)] at nd2; exact nd2
  walk_at "go"
  refine ⟨a, ns, rfl, by walk_at "at", by omega, fun p H2 np s2 hp => ?_⟩
  walk_at "go"
  have g1 : H2 d1 = some (.dK []) := by walk_at "at"
  have g2 : H2 d2 = some (.dK []) := s2 _ _ upd_same
  have hpd1 : p ≠ d1 := ne_of hp g1 (by intro z; cases z)
  have hpd2 : p ≠ d2 := ne_of hp g2 (by intro z; cases z)
  refine forE (ns := psums ns) (fun i σ H' => ∃ v4 v5 kF kL ks, σ = [some (.ref a), some (.int t), some (.ref d1), some (.ref d2), v4, v5] ∧ Same H1 H' ∧ H' p = some (.lst ((psums ns).map V.int)) ∧ H' d1 = some (.dK kF) ∧ H' d2 = some (.dK kL) ∧
      SeenF (psums ns) i kF ∧ SeenL (psums ns) i kL ∧ KeysI kF ks ∧ ks.length ≤ i ∧ kL.length ≤ i ∧ NoPair (psums ns) t i) ⟨_, _, [], [], [], rfl, by walk_at "same", hp, g1, g2, seenF_zero _, seenL_zero _, keysI_nil, by simp, by simp, fun a b _ h => by omega⟩ (fun i σ H3 _ h => ?_) (fun i σ H3 T hi h nT => ?_) (fun σ H3 h => ?_)
  · obtain ⟨_, _, _, _, _, _, _, h3, _⟩ := h
    walk_at "sq"
  · obtain ⟨_, _, kF, kL, ks, rfl, s3, h3, h4, h5, F, L, Ky, lk, ll, NP⟩ := h
    have lkF : kF.length = ks.length := by
      have := congrArg List.length Ky.1
      simpa using this
    have hTp : p ≠ T := ne_of_none h3 nT
    have hTd1 : d1 ≠ T := ne_of_none h4 nT
    have hTd2 : d2 ≠ T := ne_of_none h5 nT
    walk_at "go"
    have Fv := F (nth (psums ns) i - t)
    rcases hv : valV kF (.inl (nth (psums ns) i - t)) with _ | w
    · rw [hv] at Fv
      simp only [Option.isSome_none]
      walk_at "go"
      have NP' : NoPair (psums ns) t (i + 1) := by
        intro b c hbc hc e
        by_cases q : c = i
        · subst q
          exact Fv b hbc (by omega)
        · exact NP b c hbc (by omega) e
      rcases hx : valV kF (.inl (nth (psums ns) i)) with _ | w2
      · simp only [Option.isSome_none, Bool.not_false]
        walk_at "go"
        refine ⟨_, _, _, _, _, rfl, ?_, ?_, ?_, upd_same, F.put hx, L.put, Ky.put hx, by simp; omega, ?_, NP'⟩
        · walk_at "same"
        · rw [upd_ne hpd2, upd_ne hpd1, upd_ne hTp]; exact h3
        · rw [upd_ne hd12, upd_same]
        · have := putK_len' kL (.inl (nth (psums ns) i)) (.int i)
          omega
      · simp only [Option.isSome_some, Bool.not_true]
        walk_at "go"
        refine ⟨_, _, _, _, _, rfl, ?_, ?_, ?_, upd_same, F.keep hx, L.put, Ky, by omega, ?_, NP'⟩
        · walk_at "same"
        · rw [upd_ne hpd2, upd_ne hTp]; exact h3
        · rw [upd_ne hd12, upd_ne hTd1]; exact h4
        · have := putK_len' kL (.inl (nth (psums ns) i)) (.int i)
          omega
    · rw [hv] at Fv
      obtain ⟨j, hj, rfl, ej, _⟩ := Fv
      simp only [Option.isSome_some]
      walk_at "go"
      refine make_Exact fun x dx H4 nx s4 hx => ?_
      walk_at "go"
      have hS : segS ns (j : Int) ((i : Int) - j) = t := by
        rw [segS_pre ns (by omega) (by omega) (by omega), show (j : Int) + ((i : Int) - j) = (i : Int) by omega]
        omega
      exact kE x dx _ _ H4 ⟨⟨by omega, by omega, by omega⟩, hS⟩ (pairs_pos t (psums ns) j i hj hi (by omega)) (by walk_at "nn") (by walk_at "same") hx
  · obtain ⟨_, _, kF, kL, ks, rfl, s3, h3, h4, h5, F, L, Ky, lk, ll, NP⟩ := h
    walk_at "go"
    refine ⟨d1, kF, ks, rfl, h4, Ky.1, by omega, fun zs q hperm hsort nq => ?_⟩
    have hzl : zs.length = ks.length := hperm.length_eq
    have hnd : zs.Nodup := hperm.nodup_iff.mpr Ky.2
    have h4' : upd H3 q (.lst (zs.map V.int)) d1 = some (.dK kF) := at_new h4 nq
    have h5' : upd H3 q (.lst (zs.map V.int)) d2 = some (.dK kL) := at_new h5 nq
    have hrow : ∀ z ∈ zs, ∃ f l : Int, valV kF (.inl z) = some (.int f) ∧ valV kL (.inl z) = some (.int l) ∧ ∀ ad, tabOf (psums ns) z ⟨ad, z, f, l⟩ := by
      intro z hzm
      obtain ⟨w, hw⟩ := Ky.has (hperm.mem_iff.mp hzm)
      have Fz := F z
      rw [hw] at Fz
      obtain ⟨j, a1, rfl, a3, a4⟩ := Fz
      have Lz := L z
      rcases hw2 : valV kL (.inl z) with _ | w2
      · rw [hw2] at Lz
        exact absurd a3 (Lz j a1)
      · rw [hw2] at Lz
        obtain ⟨j2, c1, rfl, c3, c4⟩ := Lz
        exact ⟨j, j2, hw, rfl, fun ad => ⟨rfl, ⟨j, a1, rfl, a3, a4⟩, ⟨j2, c1, rfl, c3, c4⟩⟩⟩
    walk_at "go"
    refine lcTab (zs := zs) (SqL.of upd_same) (by omega) (fun _ => rfl) (fun z f l => valV kF (.inl z) = some (.int f) ∧ valV kL (.inl z) = some (.int l)) (fun z hz => by obtain ⟨f, l, e1, e2, _⟩ := hrow z hz; exact ⟨f, l, e1, e2⟩) (fun z f l H4 s4 hz e Q1 hq => ?_) (fun b rs H4 nb s4 hb hR hne e1 e2 => ?_)
    · obtain ⟨e1, e2⟩ := e
      show (_ : TE) [some (.ref a), some (.int t), some (.ref d1), some (.ref d2), _, some (.int z)] H4 Q1
      walk_at "go"
      exact wp_kTup (by show 3 ≤ 100000; decide) fun T nT => hq T nT
    · walk_at "go"
      refine make_Never hb fun x dx tb H5 nx ntb s5 hx htb => ?_
      walk_at "go"
      have hall : ∀ j : Nat, j < (psums ns).length → nth (psums ns) j ∈ zs := by
        intro j hj
        have Fz := F (nth (psums ns) j)
        rcases hw : valV kF (.inl (nth (psums ns) j)) with _ | w
        · rw [hw] at Fz
          exact absurd rfl (Fz j hj)
        · exact hperm.mem_iff.mpr (Ky.mem hw)
      have hnv : neverB ns t rs = true := never_holds e1 (fun i hi => by
        obtain ⟨q1, q2, q3⟩ := e2 i hi
        obtain ⟨f, l, w1, w2, w3⟩ := hrow _ (List.getElem_mem (show i < zs.length by omega))
        rw [q2] at w1
        rw [q3] at w2
        cases w1
        cases w2
        have := w3 rs[i].ad
        rw [← q1] at this ⊢
        exact this) hsort hnd hall NP
      have hcnt : cntOf ns t = 0 := pairs_zero t _ NP
      have hrs : rs ≠ [] := by
        intro z
        have := hall 0 (by omega)
        rw [z] at e1
        have : zs = [] := List.length_eq_zero_iff.mp e1.symm
        rw [this] at hall
        exact absurd (hall 0 (by omega)) (by simp)
      exact kN x dx tb rs H5 hnv hcnt hrs (by omega) (by walk_at "nn") (by walk_at "nn") (by walk_at "same") hx htb (hR.same s5) (fun r hr => ne_of_none (hR r hr) ntb)
theorem pure_exact_k08 {K : PySem.W.Frag} {cs : Cs} {vs : List V} {H : Hp} {Q : VK} {E : XK} (h : sp_exact_k08 K cs vs H Q E) : t_exact_k08 K cs E { nx := fun _ H' => Q .non H', rt := Q } (start N_exact_k08 vs) H := by
  rcases h with h | h | h
  · exact good_exact_k08 h
  · obtain ⟨v, w, rfl, hb, k⟩ := h
    unfold t_exact_k08
    show (_ : TS) _ [some v, some w, none, none, none, none] H
    walk_at "go"
    refine wp_callS ?_
    walk_at "go"
    refine wp_kCallS ?_
    exact ⟨_, rfl, .inr ⟨hb, k⟩⟩
  · obtain ⟨a, ns, w, rfl, ha, hr, hz, hb, k⟩ := h
    unfold t_exact_k08
    show (_ : TS) _ [some (.ref a), some w, none, none, none, none] H
    walk_at "go"
    refine wp_callS ?_
    walk_at "go"
    refine wp_kCallS ?_
    refine ⟨_, rfl, .inl ⟨a, ns, rfl, by walk_at "at", hr, hz, fun H1 s1 => ?_⟩⟩
    walk_at "go"
    refine wp_callS ?_
    walk_at "go"
    refine wp_kCallS ?_
    exact ⟨w, rfl, .inr ⟨hb.same s1, k _ s1⟩⟩
theorem good_how_many_k08 {K : PySem.W.Frag} {cs : Cs} {vs : List V} {H : Hp} {Q : VK} {E : XK} (h : sp_how_many K cs vs H Q E) : t_how_many_k08 K cs E { nx := fun _ H' => Q .non H', rt := Q } (start N_how_many_k08 vs) H := by
  obtain ⟨a, ns, t, rfl, ha, hr, hl, k⟩ := h
  unfold t_how_many_k08
  show (_ : TS) _ [some (.ref a), some (.int t), none, none, none] H
  walk_at "go"
  refine wp_callS ?_
  walk_at "go"
  refine wp_kCallS ?_
  refine ⟨_, rfl, .inl ⟨a, ns, rfl, by walk_at "at", hr, by omega, fun H1 s1 => ?_⟩⟩
  walk_at "go"
  refine wp_callS ?_
  walk_at "go"
  refine wp_kCallS ?_
  refine ⟨_, rfl, .inl ⟨t, rfl, ?_⟩⟩
  walk_at "go"
  intro d nd
  walk_at "go"
  refine ⟨a, ns, rfl, by walk_at "at", hl, fun p H2 np s2 hp => ?_⟩
  walk_at "go"
  have hz := psums_length ns
  have hd : H2 d = some (.dK []) := by walk_at "at"
  refine forI (ns := psums ns) (fun i σ H' => ∃ v kvs, σ = [some (.ref a), some (.int t), some (.ref d), some (.int (pairs t ((psums ns).take i))), v] ∧ H' p = some (.lst ((psums ns).map V.int)) ∧ Same H H' ∧ H' d = some (.dK kvs) ∧ CntD kvs ((psums ns).take i)) ⟨_, [], rfl, hp, by walk_at "same", hd, cntD_nil⟩ (fun i σ H' _ h => ?_) (fun i σ H' hi h => ?_) (fun σ H' h => ?_)
  · obtain ⟨_, _, _, hp, _⟩ := h
    walk_at "sq"
  · obtain ⟨_, kvs, rfl, hp, s, hd, hc⟩ := h
    have hk := hc.2
    rw [List.length_take] at hk
    have et : (psums ns).take (i + 1) = (psums ns).take i ++ [nth (psums ns) i] := by
      rw [List.take_add_one, List.getElem?_eq_getElem hi]
      simp [nth, hi]
    walk_at "go"
    rw [hc.1]
    walk_at "go"
    rw [hc.1]
    walk_at "go"
    refine ⟨_, _, by rw [et, pairs_snoc], ?_, ?_, upd_same, ?_⟩
    · have : p ≠ d := ne_of hp hd (by intro z; cases z)
      walk_at "at"
    · have : H d = none := by walk_at "nn"
      walk_at "same"
    · rw [et]
      refine cntD_put hc (fun v => ?_) (by simp)
      rw [List.count_append]
      simp only [List.count_cons, List.count_nil, beq_iff_eq]
      by_cases e : nth (psums ns) i = v
      · rw [if_pos e, if_pos e.symm]
      · rw [if_neg e, if_neg (fun z => e z.symm)]
  · obtain ⟨_, kvs, rfl, hp, s, hd, hc⟩ := h
    walk_at "go"
    rw [List.take_length]
    exact k _ s
theorem pure_how_many_k08 {K : PySem.W.Frag} {cs : Cs} {vs : List V} {H : Hp} {Q : VK} {E : XK} (h : sp_how_many_k08 K cs vs H Q E) : t_how_many_k08 K cs E { nx := fun _ H' => Q .non H', rt := Q } (start N_how_many_k08 vs) H := by
  rcases h with h | h | h
  · exact good_how_many_k08 h
  · obtain ⟨v, w, rfl, hb, k⟩ := h
    unfold t_how_many_k08
    show (_ : TS) _ [some v, some w, none, none, none] H
    walk_at "go"
    refine wp_callS ?_
    walk_at "go"
    refine wp_kCallS ?_
    exact ⟨_, rfl, .inr ⟨hb, k⟩⟩
  · obtain ⟨a, ns, w, rfl, ha, hr, hz, hb, k⟩ := h
    unfold t_how_many_k08
    show (_ : TS) _ [some (.ref a), some w, none, none, none] H
    walk_at "go"
    refine wp_callS ?_
    walk_at "go"
    refine wp_kCallS ?_
    refine ⟨_, rfl, .inl ⟨a, ns, rfl, by walk_at "at", hr, hz, fun H1 s1 => ?_⟩⟩
    walk_at "go"
    refine wp_callS ?_
    walk_at "go"
    refine wp_kCallS ?_
    exact ⟨w, rfl, .inr ⟨hb.same s1, k _ s1⟩⟩
theorem pure_Several_init {K : PySem.W.Frag} {cs : Cs} {vs : List V} {H : Hp} {Q : VK} {E : XK} (c : OkSeveral K cs.Several) (h : sp_Several_init K cs vs H Q E) : t_Several_init K cs { nx := fun _ H' => Q .non H', rt := Q } (start N_Several_init vs) H := by
  obtain ⟨p, dx, s, a, b, pr, xs, ns, ms, rfl, hp, hs, ha, hb, k⟩ := h
  have hps : s ≠ p := ne_of hs hp (by intro z; cases z)
  have hpa : a ≠ p := ne_of ha hp (by intro z; cases z)
  have hpb : b ≠ p := ne_of hb hp (by intro z; cases z)
  unfold t_Several_init
  show (_ : TS) _ [some (.ref p), some (.ref s), some (.int pr), some (.ref a), some (.ref b)] H
  walk_at "go"
  refine wp_list (xs := xs) (SqL.of (by walk_at "at")) fun t nt => ?_
  have hpt : p ≠ t := ne_of_none hp nt
  have hat : a ≠ t := ne_of_none ha nt
  have hbt : b ≠ t := ne_of_none hb nt
  walk_at "go"
  refine wp_kPutF (at_new hp nt) c.cl c.stretches (by show 0 < 1000; decide) (pt_Several_stretches (x0 := t)) ?_
  walk_at "go"
  refine wp_kPutF upd_same c.cl c.price (by show 1 < 1000; decide) (pt_Several_price (x0 := t) (x1 := pr)) ?_
  walk_at "go"
  refine wp_list (xs := ns.map V.int) (SqL.of (by walk_at "at")) fun l nl => ?_
  have hpl : p ≠ l := ne_of_none upd_same nl
  have hbl : b ≠ l := ne_of_none (by walk_at "at") nl
  have htl : t ≠ l := ne_of_none (by rw [upd_ne (Ne.symm hpt), upd_ne (Ne.symm hpt)]; exact upd_same) nl
  walk_at "go"
  refine wp_kPutF (at_new upd_same nl) c.cl c.outs (by show 2 < 1000; decide) (pt_Several_outs (x0 := t) (x1 := pr) (x2 := l)) ?_
  walk_at "go"
  refine wp_list (xs := ms.map V.int) (SqL.of (by walk_at "at")) fun u nu => ?_
  have hpu : p ≠ u := ne_of_none upd_same nu
  have hlu : l ≠ u := ne_of_none (by rw [upd_ne (Ne.symm hpl)]; exact upd_same) nu
  have htu : t ≠ u := ne_of_none (by rw [upd_ne (Ne.symm hpt), upd_ne htl, upd_ne (Ne.symm hpt), upd_ne (Ne.symm hpt)]; exact upd_same) nu
  walk_at "go"
  refine wp_kPutF (at_new upd_same nu) c.cl c.ins (by show 3 < 1000; decide) (pt_Several_ins (x0 := t) (x1 := pr) (x2 := l) (x3 := u)) ?_
  walk_at "go"
  rw [upd_ne (Ne.symm hpl), upd_ne (Ne.symm hpl), upd_ne (Ne.symm htl)] at nl
  rw [upd_ne (Ne.symm hpu), upd_ne (Ne.symm hlu), upd_ne (Ne.symm hpu), upd_ne (Ne.symm hpu), upd_ne (Ne.symm htu)] at nu
  refine k t l u _ nt nl nu htl htu hlu (fun b o e hb => ?_) upd_same ?_ ?_ ?_
  · rw [upd_ne hb, upd_ne (ne_of_none e nu), upd_ne hb, upd_ne (ne_of_none e nl), upd_ne hb, upd_ne hb, upd_ne (ne_of_none e nt)]
    exact e
  · rw [upd_ne (Ne.symm hpt), upd_ne htu, upd_ne (Ne.symm hpt), upd_ne htl, upd_ne (Ne.symm hpt), upd_ne (Ne.symm hpt), upd_same]
  · rw [upd_ne (Ne.symm hpl), upd_ne hlu, upd_ne (Ne.symm hpl), upd_same]
  · rw [upd_ne (Ne.symm hpu), upd_same]
theorem pure_added {K : PySem.W.Frag} {cs : Cs} {vs : List V} {H : Hp} {Q : VK} {E : XK} (h : sp_added K cs vs H Q E) : t_added K cs { nx := fun _ H' => Q .non H', rt := Q } (start N_added vs) H := by
  obtain ⟨a, b, ns, B, rfl, ha, hb, hz, k⟩ := h
  have lb := tabF_length ns B
  have eb : ∀ i : Nat, i ≤ ns.length → nth (tabF ns B) i = B i := fun i hi => nth_tabF ns B hi
  have eb0 : nth (tabF ns B) 0 = B 0 := eb 0 (by omega)
  unfold t_added
  show (_ : TS) _ [some (.ref a), some (.ref b), none, none, none, none, none, none] H
  walk_at "go"
  rw [eb0]
  refine wp_lst1 fun f nf => ?_
  walk_at "go"
  refine wp_lst1 fun g ng => ?_
  have ng0 : H g = none := by walk_at "nn"
  have hfg : f ≠ g := ne_of_none upd_same ng
  walk_at "go"
  rw [eb0]
  walk_at "go"
  refine forE (ns := ns) (fun i σ H' => ∃ (run beg : Int) (fs gs : List Int) (v6 v7 : Option V), σ = [some (.ref a), some (.ref b), some (.ref f), some (.ref g), some (.int run), some (.int beg), v6, v7] ∧ Same H H' ∧ H' f = some (.lst (fs.map V.int)) ∧ H' g = some (.lst (gs.map V.int)) ∧ AddTo ns B i fs gs run beg)
    ⟨B 0, 0, [B 0], [-1], _, _, rfl, by walk_at "same", by walk_at "at", by walk_at "at", addTo_zero ns B⟩ (fun i σ H' _ h => ?_) (fun i σ H' T hi h nT => ?_) (fun σ H' h => ?_)
  · obtain ⟨_, _, _, _, _, _, _, s, _⟩ := h
    walk_at "sq"
  · obtain ⟨run, beg, fs, gs, _, _, rfl, s, hf, hg, A⟩ := h
    have ei := eb i (by omega)
    have lf : fs.length = i + 1 := by rw [A.fs]; simp
    have lg := A.gl
    have el := addTo_last A
    have hf' : upd H' T (.tup [.int i, .int (nth ns i)]) f = some (.lst (fs.map V.int)) := by walk_at "at"
    have hg' : upd H' T (.tup [.int i, .int (nth ns i)]) g = some (.lst (gs.map V.int)) := by walk_at "at"
    walk_at "go"
    rw [ei]
    refine wp_kIfS (fun hc => ?_) (fun hc => ?_)
    · have hs := addTo_step (run1 := B i) (beg1 := i) A hi (.inl ⟨rfl, rfl, by simp only [Bool.or_eq_true, decide_eq_true_eq] at hc; omega⟩)
      walk_at "go"
      rw [ei]
      walk_at "go"
      rw [el]
      refine wp_kIfS (fun hd => ?_) (fun hd => ?_)
      · simp only [decide_eq_true_eq] at hd
        walk_at "go"
        exact ⟨_, _, _, _, _, _, rfl, by walk_at "same", by walk_at "at", by walk_at "at", hs.1 hd⟩
      · simp only [decide_eq_false_iff_not] at hd
        walk_at "go"
        rw [el]
        walk_at "go"
        exact ⟨_, _, _, _, _, _, rfl, by walk_at "same", by walk_at "at", by walk_at "at", hs.2 hd⟩
    · have hs := addTo_step (run1 := run) (beg1 := beg) A hi (.inr ⟨rfl, rfl, by simp only [Bool.or_eq_false_iff, decide_eq_false_iff_not] at hc; omega, by simp only [Bool.or_eq_false_iff, decide_eq_false_iff_not] at hc; omega⟩)
      walk_at "go"
      rw [el]
      refine wp_kIfS (fun hd => ?_) (fun hd => ?_)
      · simp only [decide_eq_true_eq] at hd
        walk_at "go"
        exact ⟨_, _, _, _, _, _, rfl, by walk_at "same", by walk_at "at", by walk_at "at", hs.1 hd⟩
      · simp only [decide_eq_false_iff_not] at hd
        walk_at "go"
        rw [el]
        walk_at "go"
        exact ⟨_, _, _, _, _, _, rfl, by walk_at "same", by walk_at "at", by walk_at "at", hs.2 hd⟩
  · obtain ⟨run, beg, fs, gs, _, _, rfl, s, hf, hg, A⟩ := h
    walk_at "go"
    refine wp_kTup (by show 2 ≤ 100000; decide) fun T nT => ?_
    walk_at "go"
    have ef := A.fs
    subst ef
    have hf2 : H' f = some (.lst ((tabF ns (bestF ns B)).map V.int)) := hf
    exact k T f g gs _ (free_of s nT) nf ng0 (by walk_at "same") upd_same (by walk_at "at") (by walk_at "at") A.gl A.ga
theorem pure_asked_many_k08 {K : PySem.W.Frag} {cs : Cs} {vs : List V} {H : Hp} {Q : VK} {E : XK} (h : sp_asked_many_k08 K cs vs H Q E) : t_asked_many_k08 K cs E { nx := fun _ H' => Q .non H', rt := Q } (start N_asked_many_k08 vs) H := by
  obtain ⟨v, rfl, h⟩ := h
  unfold t_asked_many_k08
  show (_ : TS) _ [some v] H
  walk_at "go"
  rcases h with ⟨i, rfl, h0, k⟩ | ⟨⟨i, rfl, h0⟩ | n, k⟩
  · refine ⟨_, rfl, .inl ⟨i, rfl, ?_⟩⟩
    walk_at "go"
    rw [decide_eq_false (by omega : ¬ i < 0)]
    walk_at "go"
    exact k
  · refine ⟨_, rfl, .inl ⟨i, rfl, ?_⟩⟩
    walk_at "go"
    rw [decide_eq_true h0]
    walk_at "go"
    exact wp_rz k
  · refine ⟨_, rfl, .inr ⟨n, ?_⟩⟩
    walk_at "go"
    exact wp_rz k
theorem pure_bounds {K : PySem.W.Frag} {cs : Cs} {vs : List V} {H : Hp} {Q : VK} {E : XK} (h : sp_bounds K cs vs H Q E) : t_bounds K cs { nx := fun _ H' => Q .non H', rt := Q } (start N_bounds vs) H := by
  obtain ⟨a, ns, pr, rfl, ha, hz, k⟩ := h
  unfold t_bounds
  show (_ : TS) _ [some (.ref a), some (.int pr), none, none, none] H
  walk_at "go"
  refine wp_lst1 fun l nl => ?_
  walk_at "go"
  refine wp_lst0 fun u nu => ?_
  have nu0 : H u = none := by walk_at "nn"
  have hlu : l ≠ u := ne_of_none upd_same nu
  walk_at "go"
  have h0l : upd (upd H l (.lst (([0] : List Int).map V.int))) u (.lst (([] : List Int).map V.int)) l = some (.lst (([0] : List Int).map V.int)) := by walk_at "at"
  refine forI (ns := ns) (fun i σ H' => ∃ v, σ = [some (.ref a), some (.int pr), some (.ref l), some (.ref u), v] ∧ Same H H' ∧ H' l = some (.lst ((outsTo ns pr i).map V.int)) ∧ H' u = some (.lst ((insTo ns pr i).map V.int)))
    ⟨_, rfl, by walk_at "same", h0l, upd_same⟩ (fun i σ H' _ h => ?_) (fun i σ H' hi h => ?_) (fun σ H' h => ?_)
  · obtain ⟨_, _, s, _⟩ := h
    walk_at "sq"
  · obtain ⟨_, rfl, s, hl, hu⟩ := h
    have lo := outsTo_length ns pr i
    have li := insTo_length ns pr i
    have eo := nth_outsTo ns pr (Nat.le_refl i)
    have e1 : nth (outsTo ns pr i) (-1 + ((outsTo ns pr i).length : Int)) = (bnd ns pr i).1 := by
      rw [lo, ← eo]
      congr 1
      omega
    have l1 : ∀ y, (insTo ns pr i ++ [y]).length = i + 1 := fun y => by rw [List.length_append, li]; rfl
    walk_at "go"
    rw [e1]
    refine wp_kIfS (fun hc => ?_) (fun hc => ?_)
    · obtain ⟨j, rfl⟩ : ∃ j, i = j + 1 := ⟨i - 1, by simp only [decide_eq_true_eq, l1] at hc; omega⟩
      have f2 : ∀ y, nth (insTo ns pr (j + 1) ++ [y]) (-2 + ((insTo ns pr (j + 1) ++ [y]).length : Int)) = (bnd ns pr (j + 1)).2 := fun y => by
        rw [l1, show (-2 + ((j + 1 + 1 : Nat) : Int)) = (j : Int) by omega, nth_append_left (by omega) (by rw [li]; omega), nth_insTo ns pr (by omega)]
      walk_at "go"
      rw [nth_snoc_last, f2, max_if]
      have ez : max ((bnd ns pr (j + 1)).1 - pr + nth ns ((j + 1 : Nat) : Int)) ((bnd ns pr (j + 1)).2 + nth ns ((j + 1 : Nat) : Int)) = (bnd ns pr (j + 1 + 1)).2 := by
        rw [bnd_ins ns pr (j + 1), if_neg (by omega)]
      rw [ez]
      refine wp_gSub ?_
      walk_at "go"
      refine wp_setLastI upd_same ?_
      walk_at "go"
      rw [nth_snoc_last, e1, max_if, ← bnd_outs, ← outsTo_succ, ← insTo_succ]
      exact ⟨_, rfl, by walk_at "same", by walk_at "at", by walk_at "at"⟩
    · have h0 : i = 0 := by
        simp only [decide_eq_false_iff_not, l1] at hc
        omega
      have ez : (bnd ns pr i).1 - pr + nth ns (i : Int) = (bnd ns pr (i + 1)).2 := by
        rw [bnd_ins ns pr i, if_pos h0]
      rw [ez]
      walk_at "go"
      rw [nth_snoc_last, e1, max_if, ← bnd_outs, ← outsTo_succ, ← insTo_succ]
      exact ⟨_, rfl, by walk_at "same", by walk_at "at", by walk_at "at"⟩
  · obtain ⟨_, rfl, s, hl, hu⟩ := h
    walk_at "go"
    refine wp_kTup (by show 2 ≤ 100000; decide) fun T nT => ?_
    walk_at "go"
    exact k T l u _ (by walk_at "same") upd_same (by walk_at "at") (by walk_at "at")
theorem pure_stretches_of {K : PySem.W.Frag} {cs : Cs} {vs : List V} {H : Hp} {Q : VK} {E : XK} (h : sp_stretches_of K cs vs H Q E) : t_stretches_of K cs { nx := fun _ H' => Q .non H', rt := Q } (start N_stretches_of vs) H := by
  obtain ⟨lv, ns, ls, m, rfl, hlv, hl, hL, hz, hz2, k⟩ := h
  have hrl := refsL_length ls
  unfold t_stretches_of
  show (_ : TS) _ [some (.ref lv), some (.int (ns.length : Int)), none, none, none, none, none] H
  walk_at "go"
  refine wp_lst0 fun q nq => ?_
  walk_at "go"
  refine whileC (fun μ σ H' => ∃ (at' level : Nat) (ps : List P2) (v5 v6 : Option V), σ = [some (.ref lv), some (.int (ns.length : Int)), some (.ref q), some (.int at'), some (.int level), v5, v6] ∧ at' = μ ∧ Same H H' ∧ H' q = some (.lst (refs2 ps)) ∧ Pairs2 H' ps ∧ BackTo ns m at' level ps)
    ns.length ⟨ns.length, m, [], none, none, ?_, rfl, by walk_at "same", upd_same, (fun z hz => by cases hz), backTo_zero ns m⟩ (fun μ σ H' h => ?_)
  · rw [hrl, hl, show (((m + 1 : Nat) : Int) - 1) = (m : Int) by omega]
  · obtain ⟨at', level, ps, v5, v6, rfl, rfl, s, hq, hp, B⟩ := h
    walk_at "go"
    refine wp_kWh (fun hc => ?_) (fun hc => ?_)
    · simp only [Bool.and_eq_true, decide_eq_true_eq] at hc
      obtain ⟨c1, c2⟩ := hc
      obtain ⟨lev, rfl⟩ : ∃ lev, level = lev + 1 := ⟨level - 1, by omega⟩
      have bl := B.ln
      have bn := B.an
      have hk : lev + 1 < ls.length := by omega
      obtain ⟨t1, t2, t3, t4⟩ := (hL (lev + 1) hk).same s
      obtain ⟨gl, gb⟩ := t4 (by omega)
      have hne : ls[lev + 1].ga ≠ q := ne_of_none (hL (lev + 1) hk).2.2.1 nq
      walk_at "go"
      refine ⟨lv, _, _, _, rfl, rfl, SqL.of (by walk_at "at"), atI_refsL hk rfl, ?_⟩
      walk_at "go"
      rcases gb at' bn with ⟨e1, e2⟩ | ⟨b, e1, e2, e3⟩
      · rw [e1]
        refine wp_kIfS (fun hd => by simp at hd) (fun _ => ?_)
        walk_at "go"
        obtain ⟨j, rfl⟩ : ∃ j, at' = j + 1 := ⟨at' - 1, by omega⟩
        refine ⟨j, by omega, j, lev + 1, ps, some (.ref ls[lev + 1].fa), some (.ref ls[lev + 1].ga), ?_, rfl, by walk_at "same", by walk_at "at", hp, backTo_skip B e2⟩
        rw [show (((j + 1 : Nat) : Int) - 1) = (j : Int) by omega]
      · rw [e1]
        refine wp_kIfS (fun _ => ?_) (fun hd => by simp at hd)
        walk_at "go"
        rw [e1]
        refine wp_kTup (by show 2 ≤ 100000; decide) fun T nT => ?_
        have hq' := at_new (o' := .tup [.int b, .int ((at' : Int) - b)]) hq nT
        have hpl := refs2_length ps
        walk_at "go"
        rw [e1]
        walk_at "go"
        have hp2 : Pairs2 (upd (upd H' T (.tup [.int b, .int ((at' : Int) - b)])) q (.lst (refs2 ps ++ [.ref T]))) (ps ++ [⟨T, b, (at' : Int) - b⟩]) := by
          refine pairs2_mut (fun z hz => ?_) hq'
          rcases List.mem_append.mp hz with hz | hz
          · exact at_new (hp z hz) nT
          · rw [List.mem_singleton] at hz
            subst hz
            exact upd_same
        refine ⟨b, by omega, b, lev, ps ++ [⟨T, b, (at' : Int) - b⟩], some (.ref ls[lev + 1].fa), some (.ref ls[lev + 1].ga), ?_, rfl, by walk_at "same", ?_, hp2, backTo_take B e2 e3 T⟩
        · rw [show (((lev + 1 : Nat) : Int) - 1) = (lev : Int) by omega]
        · rw [refs2_snoc]
          exact upd_same
    · have he : level = 0 ∨ at' = 0 := by
        simp only [Bool.and_eq_false_iff, decide_eq_false_iff_not] at hc
        omega
      walk_at "go"
      refine wp_revR (SqL.of hq) fun r nr => ?_
      walk_at "go"
      rw [← refs2_rev]
      exact k r ps at' level _ (by walk_at "same") upd_same (pairs2_new hp nr) B he
theorem pure_several_k08 {K : PySem.W.Frag} {cs : Cs} {vs : List V} {H : Hp} {Q : VK} {E : XK} (h : sp_several_k08 K cs vs H Q E) : t_several_k08 K cs E { nx := fun _ H' => Q .non H', rt := Q } (start N_several_k08 vs) H := by
  rcases h with h | h | h
  · exact h.elim
  · obtain ⟨v, w, rfl, hb, k⟩ := h
    unfold t_several_k08
    show (_ : TS) _ [some v, some w, none, none, none, none, none, none] H
    walk_at "go"
    refine wp_callS ?_
    walk_at "go"
    refine wp_kCallS ?_
    exact ⟨_, rfl, .inr ⟨hb, k⟩⟩
  · obtain ⟨a, ns, w, rfl, ha, hr, hz, hb, k⟩ := h
    unfold t_several_k08
    show (_ : TS) _ [some (.ref a), some w, none, none, none, none, none, none] H
    walk_at "go"
    refine wp_callS ?_
    walk_at "go"
    refine wp_kCallS ?_
    refine ⟨_, rfl, .inl ⟨a, ns, rfl, by walk_at "at", hr, hz, fun H1 s1 => ?_⟩⟩
    walk_at "go"
    refine wp_callS ?_
    walk_at "go"
    refine wp_kCallS ?_
    exact ⟨w, rfl, .inr ⟨hb.elim .inl fun z => .inr (z.same s1), k _ s1⟩⟩
theorem pure_Steep_init {K : PySem.W.Frag} {cs : Cs} {vs : List V} {H : Hp} {Q : VK} {E : XK} (c : OkSteep K cs.Steep) (h : sp_Steep_init K cs vs H Q E) : t_Steep_init K cs { nx := fun _ H' => Q .non H', rt := Q } (start N_Steep_init vs) H := by
  obtain ⟨p, dx, a, f, m, ns, rfl, hp, ha, k⟩ := h
  have hpa : a ≠ p := ne_of ha hp (by intro z; cases z)
  unfold t_Steep_init
  show (_ : TS) _ [some (.ref p), some (.int f), some (.int m), some (.ref a)] H
  walk_at "go"
  refine wp_kPutF hp c.cl c.first (by show 0 < 1000; decide) (pt_Steep_first (x0 := f)) ?_
  walk_at "go"
  refine wp_kPutF upd_same c.cl c.many (by show 1 < 1000; decide) (pt_Steep_many (x0 := f) (x1 := m)) ?_
  walk_at "go"
  refine wp_list (xs := ns.map V.int) (SqL.of (by walk_at "at")) fun l nl => ?_
  have hpl : p ≠ l := ne_of_none upd_same nl
  walk_at "go"
  refine wp_kPutF (at_new upd_same nl) c.cl c.lows (by show 2 < 1000; decide) (pt_Steep_lows (x0 := f) (x1 := m) (x2 := l)) ?_
  walk_at "go"
  rw [upd_ne (Ne.symm hpl), upd_ne (Ne.symm hpl)] at nl
  refine k l _ nl (fun b o e hb => ?_) upd_same (by rw [upd_ne (Ne.symm hpl), upd_same])
  rw [upd_ne hb, upd_ne (ne_of_none e nl), upd_ne hb, upd_ne hb]
  exact e
theorem pure_steepest_k08 {K : PySem.W.Frag} {cs : Cs} {vs : List V} {H : Hp} {Q : VK} {E : XK} (h : sp_steepest_k08 K cs vs H Q E) : t_steepest_k08 K cs E { nx := fun _ H' => Q .non H', rt := Q } (start N_steepest_k08 vs) H := by
  rcases h with h | h | h
  · exact h.elim
  · obtain ⟨v, w, rfl, hb, k⟩ := h
    unfold t_steepest_k08
    show (_ : TS) _ [some v, some w, none, none, none, none, none, none, none, none] H
    walk_at "go"
    refine wp_callS ?_
    walk_at "go"
    refine wp_kCallS ?_
    exact ⟨_, rfl, .inr ⟨hb, k⟩⟩
  · obtain ⟨a, ns, w, rfl, ha, hr, hz, hb, k⟩ := h
    unfold t_steepest_k08
    show (_ : TS) _ [some (.ref a), some w, none, none, none, none, none, none, none, none] H
    walk_at "go"
    refine wp_callS ?_
    walk_at "go"
    refine wp_kCallS ?_
    refine ⟨_, rfl, .inl ⟨a, ns, rfl, by walk_at "at", hr, hz, fun H1 s1 => ?_⟩⟩
    walk_at "go"
    refine wp_callS ?_
    walk_at "go"
    refine wp_kCallS ?_
    exact ⟨a, ns, w, rfl, s1 _ _ ha, .inr ⟨hb.elim .inl fun z => .inr (z.same s1), k _ s1⟩⟩
theorem good_sums_k08 {K : PySem.W.Frag} {cs : Cs} {vs : List V} {H : Hp} {Q : VK} {E : XK} (h : sp_sums K cs vs H Q E) : t_sums_k08 K cs E { nx := fun _ H' => Q .non H', rt := Q } (start N_sums_k08 vs) H := by
  obtain ⟨a, ns, rfl, ha, hr, hl, k⟩ := h
  unfold t_sums_k08
  show (_ : TS) _ [some (.ref a)] H
  walk_at "go"
  refine wp_callS ?_
  walk_at "go"
  refine wp_kCallS ?_
  refine ⟨_, rfl, .inl ⟨a, ns, rfl, by walk_at "at", hr, by omega, fun H1 s1 => ?_⟩⟩
  walk_at "go"
  refine ⟨a, ns, rfl, by walk_at "at", hl, fun p H2 np s2 hp => ?_⟩
  walk_at "go"
  exact k p H2 (by walk_at "nn") (by walk_at "same") hp
theorem pure_sums_k08 {K : PySem.W.Frag} {cs : Cs} {vs : List V} {H : Hp} {Q : VK} {E : XK} (h : sp_sums_k08 K cs vs H Q E) : t_sums_k08 K cs E { nx := fun _ H' => Q .non H', rt := Q } (start N_sums_k08 vs) H := by
  rcases h with h | h | h
  · exact good_sums_k08 h
  · obtain ⟨v, rfl, hb, k⟩ := h
    unfold t_sums_k08
    show (_ : TS) _ [some v] H
    walk_at "go"
    refine wp_callS ?_
    walk_at "go"
    refine wp_kCallS ?_
    exact ⟨_, rfl, .inr ⟨hb, k⟩⟩
  · exact h.elim
theorem pure_l_rows_asked_k08 {K : PySem.W.Frag} {cs : Cs} {vs : List V} {H : Hp} {Q : VK} {E : XK} (h : sp_l_rows_asked_k08 K cs vs H Q E) : t_l_rows_asked_k08 K cs E { nx := fun _ H' => Q .non H', rt := Q } (start N_l_rows_asked_k08 vs) H := by
  obtain ⟨w, m, rfl, m0, m1, k⟩ := h
  unfold t_l_rows_asked_k08
  show (_ : TS) _ [some (.int w), some (.int m), none, none] H
  refine wp_seq_join (fun σ' H' => ∃ v, σ' = [some (.int w), some (.int m), some v, none] ∧ BadRowV H' v ∧ Same H H') (fun σ' H' h => ?_) (fun n hn => ?_)
  · obtain ⟨v, rfl, hb, s⟩ := h
    walk_at "go"
    have z0 : 0 ≤ w / 9 % 7 := Int.emod_nonneg _ (by omega)
    have z1 : w / 9 % 7 < 7 := Int.emod_lt_of_pos _ (by omega)
    generalize w / 9 % 7 = z at z0 z1 ⊢
    refine wp_kIfS (fun hc => ?_) (fun hc => ?_)
    · simp only [decide_eq_true_eq] at hc
      walk_at "go"
      refine wp_callX ?_
      walk_at "go"
      refine wp_lstR (by show 2 ≤ 100000; decide) fun L nL => ?_
      walk_at "go"
      have hb2 := hb.same (same_new (o := .lst [.ref cs.f_sums, .ref cs.f_around]) (Same.refl H') nL)
      have k2 : ∀ H2, Same (upd H' L (.lst [.ref cs.f_sums, .ref cs.f_around])) H2 → E (.ref cs.BadRow) none H2 := fun H2 s2 => k _ ((same_new s nL).trans s2)
      obtain rfl | rfl : z = 0 ∨ z = 1 := by omega
      · refine ⟨L, _, _, _, rfl, rfl, SqL.of upd_same, atI_nat (j := 0) rfl, ?_⟩
        refine wp_kCallX _ (.inl ⟨rfl, rfl⟩) ?_
        walk_at "go"
        exact wp_kCallS (.inr (.inl ⟨v, rfl, hb2, k2⟩))
      · refine ⟨L, _, _, _, rfl, rfl, SqL.of upd_same, atI_nat (j := 1) rfl, ?_⟩
        refine wp_kCallX _ (.inr ⟨rfl, rfl⟩) ?_
        walk_at "go"
        exact wp_kCallS (.inr (.inl ⟨v, rfl, hb2, k2⟩))
    · simp only [decide_eq_false_iff_not] at hc
      walk_at "go"
      refine wp_callX ?_
      walk_at "go"
      refine wp_lstR (by show 5 ≤ 100000; decide) fun L nL => ?_
      walk_at "go"
      have hb2 := hb.same (same_new (o := .lst [.ref cs.f_best, .ref cs.f_steepest, .ref cs.f_exact, .ref cs.f_how_many, .ref cs.f_several]) (Same.refl H') nL)
      have k2 : ∀ H2, Same (upd H' L (.lst [.ref cs.f_best, .ref cs.f_steepest, .ref cs.f_exact, .ref cs.f_how_many, .ref cs.f_several])) H2 → E (.ref cs.BadRow) none H2 := fun H2 s2 => k _ ((same_new s nL).trans s2)
      obtain rfl | rfl | rfl | rfl | rfl : z = 2 ∨ z = 3 ∨ z = 4 ∨ z = 5 ∨ z = 6 := by omega
      · refine ⟨L, _, _, _, rfl, rfl, SqL.of upd_same, atI_nat (j := 0) rfl, ?_⟩
        refine wp_kCallX _ (.inl ⟨rfl, rfl⟩) ?_
        walk_at "go"
        exact wp_kCallS (.inr (.inl ⟨v, .non, rfl, hb2, k2⟩))
      · refine ⟨L, _, _, _, rfl, rfl, SqL.of upd_same, atI_nat (j := 1) rfl, ?_⟩
        refine wp_kCallX _ (.inr (.inl ⟨rfl, rfl⟩)) ?_
        walk_at "go"
        exact wp_kCallS (.inr (.inl ⟨v, .non, rfl, hb2, k2⟩))
      · refine ⟨L, _, _, _, rfl, rfl, SqL.of upd_same, atI_nat (j := 2) rfl, ?_⟩
        refine wp_kCallX _ (.inr (.inr (.inl ⟨rfl, rfl⟩))) ?_
        walk_at "go"
        exact wp_kCallS (.inr (.inl ⟨v, .non, rfl, hb2, k2⟩))
      · refine ⟨L, _, _, _, rfl, rfl, SqL.of upd_same, atI_nat (j := 3) rfl, ?_⟩
        refine wp_kCallX _ (.inr (.inr (.inr (.inl ⟨rfl, rfl⟩)))) ?_
        walk_at "go"
        exact wp_kCallS (.inr (.inl ⟨v, .non, rfl, hb2, k2⟩))
      · refine ⟨L, _, _, _, rfl, rfl, SqL.of upd_same, atI_nat (j := 4) rfl, ?_⟩
        refine wp_kCallX _ (.inr (.inr (.inr (.inr ⟨rfl, rfl⟩)))) ?_
        walk_at "go"
        exact wp_kCallS (.inr (.inl ⟨v, .non, rfl, hb2, k2⟩))
  · have lists : ∀ (a : Addr) (x : V) (H2 : Hp), Same H H2 → H2 a = some (.lst [x]) → BadOne H2 x → (tIfS (tB (tCB (rIsi K) (tCons (tVar 2) (tCons (tC (.ty "list")) tNil)))) (tAsg (tOp rCat (tOp rRep (tLst (tCons (tC (.int 3)) tNil)) (tOp rModI (tVar 1) (tC (.int 6)))) (tVar 2)) (gName 2)) tNext) (Ends.mk n Q (fun _ _ => False) (fun _ _ => False)) [some (.int w), some (.int m), some (.ref a), none] H2 := by
      intro a x H2 s2 ha hb
      walk_at "go"
      refine wp_lstR (by show 1 ≤ 100000; decide) fun L nL => ?_
      walk_at "go"
      have q0 : 0 ≤ m % 6 := Int.emod_nonneg _ (by omega)
      have q1 : m % 6 < 6 := Int.emod_lt_of_pos _ (by omega)
      generalize m % 6 = z at q0 q1 ⊢
      refine ⟨L, z, [.int 3], rfl, rfl, upd_same, by omega, by omega, sz _ (by show 1 * z.toNat ≤ 100000; omega), fun L2 nL2 => ?_⟩
      walk_at "go"
      rw [rep3]
      refine wp_catR (xs := (List.replicate z.toNat (3 : Int)).map V.int) (ys := [x]) upd_same (by walk_at "at") (by rw [List.length_map, List.length_replicate]; show z.toNat + 1 ≤ 100000; omega) fun L3 nL3 => ?_
      walk_at "go"
      refine hn _ _ ⟨.ref L3, rfl, .inr (.inr (.inr (.inr ⟨L3, _, x, rfl, upd_same, by rw [List.length_replicate]; omega, hb⟩))), by walk_at "same"⟩
    walk_at "go"
    refine wp_kTup (by show 2 ≤ 100000; decide) fun a1 n1 => ?_
    have s1 : Same H (upd H a1 (.tup [.int 1, .int 2])) := same_new (Same.refl _) n1
    have g1 : upd H a1 (.tup [.int 1, .int 2]) a1 = some (.tup [.int 1, .int 2]) := upd_same
    generalize upd H a1 (.tup [.int 1, .int 2]) = H1 at s1 g1 ⊢
    walk_at "go"
    refine wp_lstR (by show 1 ≤ 100000; decide) fun a2 n2 => ?_
    have s2 : Same H1 (upd H1 a2 (.lst [.int (1000001 + m)])) := same_new (Same.refl _) n2
    have g2 : upd H1 a2 (.lst [.int (1000001 + m)]) a2 = some (.lst [.int (1000001 + m)]) := upd_same
    generalize upd H1 a2 (.lst [.int (1000001 + m)]) = H2 at s2 g2 ⊢
    walk_at "go"
    refine wp_lstR (by show 1 ≤ 100000; decide) fun a3 n3 => ?_
    have s3 : Same H2 (upd H2 a3 (.lst [.int (-1000001 - m)])) := same_new (Same.refl _) n3
    have g3 : upd H2 a3 (.lst [.int (-1000001 - m)]) a3 = some (.lst [.int (-1000001 - m)]) := upd_same
    generalize upd H2 a3 (.lst [.int (-1000001 - m)]) = H3 at s3 g3 ⊢
    walk_at "go"
    refine wp_lstR (by show 1 ≤ 100000; decide) fun a4 n4 => ?_
    have s4 : Same H3 (upd H3 a4 (.lst [.bl true])) := same_new (Same.refl _) n4
    have g4 : upd H3 a4 (.lst [.bl true]) a4 = some (.lst [.bl true]) := upd_same
    generalize upd H3 a4 (.lst [.bl true]) = H4 at s4 g4 ⊢
    walk_at "go"
    refine wp_lstR (by show 1 ≤ 100000; decide) fun a5 n5 => ?_
    have s5 : Same H4 (upd H4 a5 (.lst [.str "1"])) := same_new (Same.refl _) n5
    have g5 : upd H4 a5 (.lst [.str "1"]) a5 = some (.lst [.str "1"]) := upd_same
    generalize upd H4 a5 (.lst [.str "1"]) = H5 at s5 g5 ⊢
    walk_at "go"
    refine wp_lstR (by show 1 ≤ 100000; decide) fun a6 n6 => ?_
    have s6 : Same H5 (upd H5 a6 (.lst [.non])) := same_new (Same.refl _) n6
    have g6 : upd H5 a6 (.lst [.non]) a6 = some (.lst [.non]) := upd_same
    generalize upd H5 a6 (.lst [.non]) = H6 at s6 g6 ⊢
    walk_at "go"
    refine wp_lstR (by show 9 ≤ 100000; decide) fun a7 n7 => ?_
    have s7 : Same H6 (upd H6 a7 (.lst [.non, .ref a1, .str "12", .int 5, .ref a2, .ref a3, .ref a4, .ref a5, .ref a6])) := same_new (Same.refl _) n7
    have g7 : upd H6 a7 (.lst [.non, .ref a1, .str "12", .int 5, .ref a2, .ref a3, .ref a4, .ref a5, .ref a6]) a7 = some (.lst [.non, .ref a1, .str "12", .int 5, .ref a2, .ref a3, .ref a4, .ref a5, .ref a6]) := upd_same
    generalize upd H6 a7 (.lst [.non, .ref a1, .str "12", .int 5, .ref a2, .ref a3, .ref a4, .ref a5, .ref a6]) = H7 at s7 g7 ⊢
    have s07 : Same H H7 := (((((s1.trans s2).trans s3).trans s4).trans s5).trans s6).trans s7
    have e1 := s7 _ _ (s6 _ _ (s5 _ _ (s4 _ _ (s3 _ _ (s2 _ _ g1)))))
    have e2 := s7 _ _ (s6 _ _ (s5 _ _ (s4 _ _ (s3 _ _ g2))))
    have e3 := s7 _ _ (s6 _ _ (s5 _ _ (s4 _ _ g3)))
    have e4 := s7 _ _ (s6 _ _ (s5 _ _ g4))
    have e5 := s7 _ _ (s6 _ _ g5)
    have e6 := s7 _ _ g6
    clear g1 g2 g3 g4 g5 g6 s1 s2 s3 s4 s5 s6 s7 n1 n2 n3 n4 n5 n6 n7
    walk_at "go"
    have z0 : 0 ≤ w % 9 := Int.emod_nonneg _ (by omega)
    have z1 : w % 9 < 9 := Int.emod_lt_of_pos _ (by omega)
    generalize w % 9 = z at z0 z1 ⊢
    obtain rfl | rfl | rfl | rfl | rfl | rfl | rfl | rfl | rfl : z = 0 ∨ z = 1 ∨ z = 2 ∨ z = 3 ∨ z = 4 ∨ z = 5 ∨ z = 6 ∨ z = 7 ∨ z = 8 := by omega
    · refine ⟨a7, _, _, _, rfl, rfl, SqL.of g7, atI_nat (j := 0) rfl, ?_⟩
      walk_at "go"
      refine isiF (c := false) .non (kit_ty (by decide +kernel)) ?_
      walk_at "go"
      exact hn _ _ ⟨.non, rfl, .inl rfl, s07⟩
    · refine ⟨a7, _, _, _, rfl, rfl, SqL.of g7, atI_nat (j := 1) rfl, ?_⟩
      walk_at "go"
      refine isiF (c := false) (.tup e1) (kit_ty (by decide +kernel)) ?_
      walk_at "go"
      exact hn _ _ ⟨(.ref a1), rfl, .inr (.inr (.inr (.inl ⟨a1, _, rfl, e1⟩))), s07⟩
    · refine ⟨a7, _, _, _, rfl, rfl, SqL.of g7, atI_nat (j := 2) rfl, ?_⟩
      walk_at "go"
      refine isiF (c := false) (.str "12") (kit_ty (by decide +kernel)) ?_
      walk_at "go"
      exact hn _ _ ⟨(.str "12"), rfl, .inr (.inl ⟨_, rfl⟩), s07⟩
    · refine ⟨a7, _, _, _, rfl, rfl, SqL.of g7, atI_nat (j := 3) rfl, ?_⟩
      walk_at "go"
      refine isiF (c := false) (.int 5) (kit_ty (by decide +kernel)) ?_
      walk_at "go"
      exact hn _ _ ⟨(.int 5), rfl, .inr (.inr (.inl ⟨_, rfl⟩)), s07⟩
    · refine ⟨a7, _, _, _, rfl, rfl, SqL.of g7, atI_nat (j := 4) rfl, ?_⟩
      refine wp_kSet rfl ?_
      exact lists a2 _ H7 s07 e2 (.inl ⟨_, rfl, by omega⟩)
    · refine ⟨a7, _, _, _, rfl, rfl, SqL.of g7, atI_nat (j := 5) rfl, ?_⟩
      refine wp_kSet rfl ?_
      exact lists a3 _ H7 s07 e3 (.inl ⟨_, rfl, by omega⟩)
    · refine ⟨a7, _, _, _, rfl, rfl, SqL.of g7, atI_nat (j := 6) rfl, ?_⟩
      refine wp_kSet rfl ?_
      exact lists a4 _ H7 s07 e4 (.inr (.inr (.inl ⟨_, rfl⟩)))
    · refine ⟨a7, _, _, _, rfl, rfl, SqL.of g7, atI_nat (j := 7) rfl, ?_⟩
      refine wp_kSet rfl ?_
      exact lists a5 _ H7 s07 e5 (.inr (.inr (.inr ⟨_, rfl⟩)))
    · refine ⟨a7, _, _, _, rfl, rfl, SqL.of g7, atI_nat (j := 8) rfl, ?_⟩
      refine wp_kSet rfl ?_
      exact lists a6 _ H7 s07 e6 (.inr (.inl rfl))
theorem pure_l_told_k08 {K : PySem.W.Frag} {cs : Cs} {vs : List V} {H : Hp} {Q : VK} {E : XK} (X : Errs K cs) (h : sp_l_told_k08 K cs vs H Q E) : t_l_told_k08 K cs { nx := fun _ H' => Q .non H', rt := Q } (start N_l_told_k08 vs) H := by
  obtain ⟨k, w, m, rfl, k0, k3, m0, m1, q⟩ := h
  unfold t_l_told_k08
  show (_ : TS) _ [some (.int k), some (.int w), some (.int m), none, none, none] H
  refine wp_seq ?_
  refine wp_tTryAs (fun cls σ' H' => ∃ v5, cls = .ref (errOf cs k) ∧ σ' = [some (.int k), some (.int w), some (.int m), none, none, v5] ∧ Same H H') (fun cls σ' H' p => ?_) (fun W hW => ?_)
  · obtain ⟨v5, rfl, rfl, s⟩ := p
    obtain ⟨e1, e2, e3, e4, e5, e6⟩ := errOf_kits X k0 k3
    refine ⟨errOf_m X k, fun a ha => ?_⟩
    show (_ : TS) _ [some (.int k), some (.int w), some (.int m), some (.ref a), none, v5] H'
    walk_at "go"
    refine ⟨errOf cs k, e6, rfl, rfl, .ref cs.BadRow, .ref cs.BadRow, _, rfl, fun u hu => hu, e1, ?_⟩
    walk_at "go"
    refine ⟨errOf cs k, e6, rfl, rfl, .ref cs.BadLeast, .ref cs.BadLeast, _, rfl, fun u hu => hu, e2, ?_⟩
    walk_at "go"
    refine ⟨errOf cs k, e6, rfl, rfl, .ref cs.BadTotal, .ref cs.BadTotal, _, rfl, fun u hu => hu, e3, ?_⟩
    walk_at "go"
    refine wp_lstR (by show 3 ≤ 100000; decide) fun L1 n1 => ?_
    walk_at "go"
    refine ⟨errOf cs k, e6, rfl, rfl, .ref cs.BadMany, .ref cs.BadMany, _, rfl, fun u hu => hu, e4, ?_⟩
    walk_at "go"
    refine ⟨errOf cs k, e6, rfl, rfl, .ty "ValueError", .type "ValueError", _, rfl, fun u hu => hu, e5, ?_⟩
    walk_at "go"
    refine wp_lstR (by show 2 ≤ 100000; decide) fun L2 n2 => ?_
    walk_at "go"
    refine wp_catR (at_new upd_same n2) upd_same (by show 3 + 2 ≤ 100000; decide) fun L3 n3 => ?_
    walk_at "go"
    have s3 : Same H' (upd (upd H' L1 (.lst [.bl (decide (k = 0)), .bl (decide (k = 1)), .bl (decide (k = 2))])) L2 (.lst [.bl (decide (k = 3)), .bl true])) := same_new (same_new (Same.refl _) n1) n2
    exact q L3 _ ((s.trans s3).free n3) (same_new (s.trans s3) n3) upd_same
  · walk_at "go"
    refine wp_kIfS (fun hc => ?_) (fun hc => ?_)
    · obtain rfl : k = 0 := by simpa using hc
      walk_at "go"
      refine wp_callS ?_
      walk_at "go"
      exact wp_kCallS ⟨w, m, rfl, m0, m1, fun H' s => hW _ _ _ ⟨none, rfl, rfl, s⟩⟩
    walk_at "go"
    refine wp_kIfS (fun hc => ?_) (fun hc => ?_)
    · obtain ⟨rfl, hw⟩ : k = 1 ∧ w % 3 = 0 := by simpa using hc
      walk_at "go"
      refine wp_callS ?_
      walk_at "go"
      refine wp_lst0 fun e ne => ?_
      walk_at "go"
      exact wp_kCallS (.inr (.inr ⟨e, rfl, upd_same, fun H' s => hW _ _ _ ⟨none, rfl, rfl, (same_new (Same.refl _) ne).trans s⟩⟩))
    walk_at "go"
    refine wp_kIfS (fun hc => ?_) (fun hc => ?_)
    · obtain rfl : k = 1 := by simpa using hc
      refine wp_seq_join2 (fun σ' H' => ∃ v, σ' = [some (.int 1), some (.int w), some (.int m), none, none, some v] ∧ ((∃ i : Int, v = .int i ∧ ¬ (1 ≤ i ∧ i ≤ 2)) ∨ NotNum H' v) ∧ Same H H') (fun σ' H' h => ?_) (fun n hn => ?_)
      · obtain ⟨v, rfl, hb, s⟩ := h
        have hw : ¬ w % 3 = 0 := by
          rename_i hc2
          simpa using hc2
        have z0 : 0 ≤ w % 3 := Int.emod_nonneg _ (by omega)
        have z1 : w % 3 < 3 := Int.emod_lt_of_pos _ (by omega)
        walk_at "go"
        refine wp_callX ?_
        walk_at "go"
        refine wp_lstR (by show 2 ≤ 100000; decide) fun L nL => ?_
        have sL : Same H' (upd H' L (.lst [.ref cs.f_best, .ref cs.f_steepest])) := same_new (Same.refl _) nL
        have gL : upd H' L (.lst [.ref cs.f_best, .ref cs.f_steepest]) L = some (.lst [.ref cs.f_best, .ref cs.f_steepest]) := upd_same
        generalize upd H' L (.lst [.ref cs.f_best, .ref cs.f_steepest]) = HL at sL gL ⊢
        walk_at "go"
        obtain e | e : w % 3 = 1 ∨ w % 3 = 2 := by omega
        · rw [e]
          refine ⟨L, _, _, _, rfl, rfl, SqL.of gL, atI_nat (j := 0) rfl, ?_⟩
          refine wp_kCallX _ (.inl ⟨rfl, rfl⟩) ?_
          walk_at "go"
          refine wp_lst2 fun a na => ?_
          walk_at "go"
          exact wp_kCallS (.inr (.inr ⟨a, [5, 6], v, rfl, upd_same, (fun z hz => by simp at hz; omega), by show 2 ≤ 1000; decide, hb.elim .inl fun z => .inr (z.same (sL.trans (same_new (Same.refl _) na))), fun H2 s2 => hW _ _ _ ⟨_, rfl, rfl, (s.trans (sL.trans (same_new (Same.refl _) na))).trans s2⟩⟩))
        · rw [e]
          refine ⟨L, _, _, _, rfl, rfl, SqL.of gL, atI_nat (j := 1) rfl, ?_⟩
          refine wp_kCallX _ (.inr ⟨rfl, rfl⟩) ?_
          walk_at "go"
          refine wp_lst2 fun a na => ?_
          walk_at "go"
          exact wp_kCallS (.inr (.inr ⟨a, [5, 6], v, rfl, upd_same, (fun z hz => by simp at hz; omega), by show 2 ≤ 1000; decide, hb.elim .inl fun z => .inr (z.same (sL.trans (same_new (Same.refl _) na))), fun H2 s2 => hW _ _ _ ⟨_, rfl, rfl, (s.trans (sL.trans (same_new (Same.refl _) na))).trans s2⟩⟩))
      · walk_at "go"
        refine wp_lstR (by show 1 ≤ 100000; decide) fun a1 n1 => ?_
        have s1 : Same H (upd H a1 (.lst [.int 1])) := same_new (Same.refl _) n1
        have g1 : upd H a1 (.lst [.int 1]) a1 = some (.lst [.int 1]) := upd_same
        generalize upd H a1 (.lst [.int 1]) = H1 at s1 g1 ⊢
        walk_at "go"
        refine wp_kTup (by show 1 ≤ 100000; decide) fun a2 n2 => ?_
        have s2 : Same H1 (upd H1 a2 (.tup [.int 1])) := same_new (Same.refl _) n2
        have g2 : upd H1 a2 (.tup [.int 1]) a2 = some (.tup [.int 1]) := upd_same
        generalize upd H1 a2 (.tup [.int 1]) = H2 at s2 g2 ⊢
        walk_at "go"
        refine wp_lstR (by show 8 ≤ 100000; decide) fun a3 n3 => ?_
        have s3 : Same H2 (upd H2 a3 (.lst [.non, .str "1", .bl true, .ref a1, .int 0, .int (-1 - m), .int (3 + m), .ref a2])) := same_new (Same.refl _) n3
        have g3 : upd H2 a3 (.lst [.non, .str "1", .bl true, .ref a1, .int 0, .int (-1 - m), .int (3 + m), .ref a2]) a3 = some (.lst [.non, .str "1", .bl true, .ref a1, .int 0, .int (-1 - m), .int (3 + m), .ref a2]) := upd_same
        generalize upd H2 a3 (.lst [.non, .str "1", .bl true, .ref a1, .int 0, .int (-1 - m), .int (3 + m), .ref a2]) = H3 at s3 g3 ⊢
        have s03 : Same H H3 := (s1.trans s2).trans s3
        have e1 := s3 _ _ (s2 _ _ g1)
        have e2 := s3 _ _ g2
        clear g1 g2 s1 s2 s3 n1 n2 n3
        walk_at "go"
        have z0 : 0 ≤ w / 3 % 8 := Int.emod_nonneg _ (by omega)
        have z1 : w / 3 % 8 < 8 := Int.emod_lt_of_pos _ (by omega)
        generalize w / 3 % 8 = z at z0 z1 ⊢
        obtain rfl | rfl | rfl | rfl | rfl | rfl | rfl | rfl : z = 0 ∨ z = 1 ∨ z = 2 ∨ z = 3 ∨ z = 4 ∨ z = 5 ∨ z = 6 ∨ z = 7 := by omega
        · refine ⟨a3, _, _, _, rfl, rfl, SqL.of g3, atI_nat (j := 0) rfl, ?_⟩
          refine wp_kSet rfl ?_
          exact hn _ _ ⟨_, rfl, .inr .non, s03⟩
        · refine ⟨a3, _, _, _, rfl, rfl, SqL.of g3, atI_nat (j := 1) rfl, ?_⟩
          refine wp_kSet rfl ?_
          exact hn _ _ ⟨_, rfl, .inr (.str _), s03⟩
        · refine ⟨a3, _, _, _, rfl, rfl, SqL.of g3, atI_nat (j := 2) rfl, ?_⟩
          refine wp_kSet rfl ?_
          exact hn _ _ ⟨_, rfl, .inr (.bl _), s03⟩
        · refine ⟨a3, _, _, _, rfl, rfl, SqL.of g3, atI_nat (j := 3) rfl, ?_⟩
          refine wp_kSet rfl ?_
          exact hn _ _ ⟨_, rfl, .inr (.lst e1), s03⟩
        · refine ⟨a3, _, _, _, rfl, rfl, SqL.of g3, atI_nat (j := 4) rfl, ?_⟩
          refine wp_kSet rfl ?_
          exact hn _ _ ⟨_, rfl, .inl ⟨0, rfl, by omega⟩, s03⟩
        · refine ⟨a3, _, _, _, rfl, rfl, SqL.of g3, atI_nat (j := 5) rfl, ?_⟩
          refine wp_kSet rfl ?_
          exact hn _ _ ⟨_, rfl, .inl ⟨-1 - m, rfl, by omega⟩, s03⟩
        · refine ⟨a3, _, _, _, rfl, rfl, SqL.of g3, atI_nat (j := 6) rfl, ?_⟩
          refine wp_kSet rfl ?_
          exact hn _ _ ⟨_, rfl, .inl ⟨3 + m, rfl, by omega⟩, s03⟩
        · refine ⟨a3, _, _, _, rfl, rfl, SqL.of g3, atI_nat (j := 7) rfl, ?_⟩
          refine wp_kSet rfl ?_
          exact hn _ _ ⟨_, rfl, .inr (.tup e2), s03⟩
    walk_at "go"
    refine wp_kIfS (fun hc => ?_) (fun hc => ?_)
    · obtain rfl : k = 2 := by simpa using hc
      walk_at "go"
      refine wp_callX ?_
      walk_at "go"
      refine wp_lstR (by show 2 ≤ 100000; decide) fun L nL => ?_
      have sL : Same H (upd H L (.lst [.ref cs.f_exact, .ref cs.f_how_many])) := same_new (Same.refl _) nL
      have gL : upd H L (.lst [.ref cs.f_exact, .ref cs.f_how_many]) L = some (.lst [.ref cs.f_exact, .ref cs.f_how_many]) := upd_same
      generalize upd H L (.lst [.ref cs.f_exact, .ref cs.f_how_many]) = HL at sL gL ⊢
      walk_at "go"
      have y0 : 0 ≤ w / 2 % 6 := Int.emod_nonneg _ (by omega)
      have y1 : w / 2 % 6 < 6 := Int.emod_lt_of_pos _ (by omega)
      obtain e | e : w % 2 = 0 ∨ w % 2 = 1 := by omega
      · rw [e]
        refine ⟨L, _, _, _, rfl, rfl, SqL.of gL, atI_nat (j := 0) rfl, ?_⟩
        refine wp_kCallX _ (.inl ⟨rfl, rfl⟩) ?_
        walk_at "go"
        refine wp_lstR (by show 2 ≤ 100000; decide) fun a1 n1 => ?_
        have s1 : Same HL (upd HL a1 (.lst [.int 5, .int 6])) := same_new (Same.refl _) n1
        have g1 : upd HL a1 (.lst [.int 5, .int 6]) a1 = some (.lst [.int 5, .int 6]) := upd_same
        generalize upd HL a1 (.lst [.int 5, .int 6]) = H1 at s1 g1 ⊢
        walk_at "go"
        refine wp_lstR (by show 1 ≤ 100000; decide) fun a2 n2 => ?_
        have s2 : Same H1 (upd H1 a2 (.lst [.int 1])) := same_new (Same.refl _) n2
        have g2 : upd H1 a2 (.lst [.int 1]) a2 = some (.lst [.int 1]) := upd_same
        generalize upd H1 a2 (.lst [.int 1]) = H2 at s2 g2 ⊢
        walk_at "go"
        refine wp_kTup (by show 1 ≤ 100000; decide) fun a3 n3 => ?_
        have s3 : Same H2 (upd H2 a3 (.tup [.int 1])) := same_new (Same.refl _) n3
        have g3 : upd H2 a3 (.tup [.int 1]) a3 = some (.tup [.int 1]) := upd_same
        generalize upd H2 a3 (.tup [.int 1]) = H3 at s3 g3 ⊢
        walk_at "go"
        intro a4 n4
        have s4 : Same H3 (upd H3 a4 (.dK [])) := same_new (Same.refl _) n4
        have g4 : upd H3 a4 (.dK []) a4 = some (.dK []) := upd_same
        generalize upd H3 a4 (.dK []) = H4 at s4 g4 ⊢
        walk_at "go"
        refine wp_lstR (by show 6 ≤ 100000; decide) fun a5 n5 => ?_
        have s5 : Same H4 (upd H4 a5 (.lst [.non, .str "1", .bl true, .ref a2, .ref a3, .ref a4])) := same_new (Same.refl _) n5
        have g5 : upd H4 a5 (.lst [.non, .str "1", .bl true, .ref a2, .ref a3, .ref a4]) a5 = some (.lst [.non, .str "1", .bl true, .ref a2, .ref a3, .ref a4]) := upd_same
        generalize upd H4 a5 (.lst [.non, .str "1", .bl true, .ref a2, .ref a3, .ref a4]) = H5 at s5 g5 ⊢
        have e0 : H5 a1 = some (.lst (([5, 6] : List Int).map V.int)) := (s5 _ _ (s4 _ _ (s3 _ _ (s2 _ _ g1))))
        have e2 := (s5 _ _ (s4 _ _ (s3 _ _ g2)))
        have e3 := (s5 _ _ (s4 _ _ g3))
        have e4 := (s5 _ _ g4)
        have sA : Same H H5 := (((((sL.trans s1).trans s2).trans s3).trans s4).trans s5)
        clear g1 g2 g3 g4 s1 s2 s3 s4 s5 n1 n2 n3 n4 n5 sL
        walk_at "go"
        generalize w / 2 % 6 = z at y0 y1 ⊢
        obtain rfl | rfl | rfl | rfl | rfl | rfl : z = 0 ∨ z = 1 ∨ z = 2 ∨ z = 3 ∨ z = 4 ∨ z = 5 := by omega
        · refine ⟨a5, _, _, _, rfl, rfl, SqL.of g5, atI_nat (j := 0) rfl, ?_⟩
          walk_at "go"
          exact wp_kCallS (.inr (.inr ⟨a1, [5, 6], _, rfl, e0, (fun z hz => by simp at hz; omega), by show 2 ≤ 1000; decide, .non, fun H2 s2 => hW _ _ _ ⟨_, rfl, rfl, sA.trans s2⟩⟩))
        · refine ⟨a5, _, _, _, rfl, rfl, SqL.of g5, atI_nat (j := 1) rfl, ?_⟩
          walk_at "go"
          exact wp_kCallS (.inr (.inr ⟨a1, [5, 6], _, rfl, e0, (fun z hz => by simp at hz; omega), by show 2 ≤ 1000; decide, .str _, fun H2 s2 => hW _ _ _ ⟨_, rfl, rfl, sA.trans s2⟩⟩))
        · refine ⟨a5, _, _, _, rfl, rfl, SqL.of g5, atI_nat (j := 2) rfl, ?_⟩
          walk_at "go"
          exact wp_kCallS (.inr (.inr ⟨a1, [5, 6], _, rfl, e0, (fun z hz => by simp at hz; omega), by show 2 ≤ 1000; decide, .bl _, fun H2 s2 => hW _ _ _ ⟨_, rfl, rfl, sA.trans s2⟩⟩))
        · refine ⟨a5, _, _, _, rfl, rfl, SqL.of g5, atI_nat (j := 3) rfl, ?_⟩
          walk_at "go"
          exact wp_kCallS (.inr (.inr ⟨a1, [5, 6], _, rfl, e0, (fun z hz => by simp at hz; omega), by show 2 ≤ 1000; decide, .lst e2, fun H2 s2 => hW _ _ _ ⟨_, rfl, rfl, sA.trans s2⟩⟩))
        · refine ⟨a5, _, _, _, rfl, rfl, SqL.of g5, atI_nat (j := 4) rfl, ?_⟩
          walk_at "go"
          exact wp_kCallS (.inr (.inr ⟨a1, [5, 6], _, rfl, e0, (fun z hz => by simp at hz; omega), by show 2 ≤ 1000; decide, .tup e3, fun H2 s2 => hW _ _ _ ⟨_, rfl, rfl, sA.trans s2⟩⟩))
        · refine ⟨a5, _, _, _, rfl, rfl, SqL.of g5, atI_nat (j := 5) rfl, ?_⟩
          walk_at "go"
          exact wp_kCallS (.inr (.inr ⟨a1, [5, 6], _, rfl, e0, (fun z hz => by simp at hz; omega), by show 2 ≤ 1000; decide, .dk e4, fun H2 s2 => hW _ _ _ ⟨_, rfl, rfl, sA.trans s2⟩⟩))
      · rw [e]
        refine ⟨L, _, _, _, rfl, rfl, SqL.of gL, atI_nat (j := 1) rfl, ?_⟩
        refine wp_kCallX _ (.inr ⟨rfl, rfl⟩) ?_
        walk_at "go"
        refine wp_lstR (by show 2 ≤ 100000; decide) fun a1 n1 => ?_
        have s1 : Same HL (upd HL a1 (.lst [.int 5, .int 6])) := same_new (Same.refl _) n1
        have g1 : upd HL a1 (.lst [.int 5, .int 6]) a1 = some (.lst [.int 5, .int 6]) := upd_same
        generalize upd HL a1 (.lst [.int 5, .int 6]) = H1 at s1 g1 ⊢
        walk_at "go"
        refine wp_lstR (by show 1 ≤ 100000; decide) fun a2 n2 => ?_
        have s2 : Same H1 (upd H1 a2 (.lst [.int 1])) := same_new (Same.refl _) n2
        have g2 : upd H1 a2 (.lst [.int 1]) a2 = some (.lst [.int 1]) := upd_same
        generalize upd H1 a2 (.lst [.int 1]) = H2 at s2 g2 ⊢
        walk_at "go"
        refine wp_kTup (by show 1 ≤ 100000; decide) fun a3 n3 => ?_
        have s3 : Same H2 (upd H2 a3 (.tup [.int 1])) := same_new (Same.refl _) n3
        have g3 : upd H2 a3 (.tup [.int 1]) a3 = some (.tup [.int 1]) := upd_same
        generalize upd H2 a3 (.tup [.int 1]) = H3 at s3 g3 ⊢
        walk_at "go"
        intro a4 n4
        have s4 : Same H3 (upd H3 a4 (.dK [])) := same_new (Same.refl _) n4
        have g4 : upd H3 a4 (.dK []) a4 = some (.dK []) := upd_same
        generalize upd H3 a4 (.dK []) = H4 at s4 g4 ⊢
        walk_at "go"
        refine wp_lstR (by show 6 ≤ 100000; decide) fun a5 n5 => ?_
        have s5 : Same H4 (upd H4 a5 (.lst [.non, .str "1", .bl true, .ref a2, .ref a3, .ref a4])) := same_new (Same.refl _) n5
        have g5 : upd H4 a5 (.lst [.non, .str "1", .bl true, .ref a2, .ref a3, .ref a4]) a5 = some (.lst [.non, .str "1", .bl true, .ref a2, .ref a3, .ref a4]) := upd_same
        generalize upd H4 a5 (.lst [.non, .str "1", .bl true, .ref a2, .ref a3, .ref a4]) = H5 at s5 g5 ⊢
        have e0 : H5 a1 = some (.lst (([5, 6] : List Int).map V.int)) := (s5 _ _ (s4 _ _ (s3 _ _ (s2 _ _ g1))))
        have e2 := (s5 _ _ (s4 _ _ (s3 _ _ g2)))
        have e3 := (s5 _ _ (s4 _ _ g3))
        have e4 := (s5 _ _ g4)
        have sA : Same H H5 := (((((sL.trans s1).trans s2).trans s3).trans s4).trans s5)
        clear g1 g2 g3 g4 s1 s2 s3 s4 s5 n1 n2 n3 n4 n5 sL
        walk_at "go"
        generalize w / 2 % 6 = z at y0 y1 ⊢
        obtain rfl | rfl | rfl | rfl | rfl | rfl : z = 0 ∨ z = 1 ∨ z = 2 ∨ z = 3 ∨ z = 4 ∨ z = 5 := by omega
        · refine ⟨a5, _, _, _, rfl, rfl, SqL.of g5, atI_nat (j := 0) rfl, ?_⟩
          walk_at "go"
          exact wp_kCallS (.inr (.inr ⟨a1, [5, 6], _, rfl, e0, (fun z hz => by simp at hz; omega), by show 2 ≤ 1000; decide, .non, fun H2 s2 => hW _ _ _ ⟨_, rfl, rfl, sA.trans s2⟩⟩))
        · refine ⟨a5, _, _, _, rfl, rfl, SqL.of g5, atI_nat (j := 1) rfl, ?_⟩
          walk_at "go"
          exact wp_kCallS (.inr (.inr ⟨a1, [5, 6], _, rfl, e0, (fun z hz => by simp at hz; omega), by show 2 ≤ 1000; decide, .str _, fun H2 s2 => hW _ _ _ ⟨_, rfl, rfl, sA.trans s2⟩⟩))
        · refine ⟨a5, _, _, _, rfl, rfl, SqL.of g5, atI_nat (j := 2) rfl, ?_⟩
          walk_at "go"
          exact wp_kCallS (.inr (.inr ⟨a1, [5, 6], _, rfl, e0, (fun z hz => by simp at hz; omega), by show 2 ≤ 1000; decide, .bl _, fun H2 s2 => hW _ _ _ ⟨_, rfl, rfl, sA.trans s2⟩⟩))
        · refine ⟨a5, _, _, _, rfl, rfl, SqL.of g5, atI_nat (j := 3) rfl, ?_⟩
          walk_at "go"
          exact wp_kCallS (.inr (.inr ⟨a1, [5, 6], _, rfl, e0, (fun z hz => by simp at hz; omega), by show 2 ≤ 1000; decide, .lst e2, fun H2 s2 => hW _ _ _ ⟨_, rfl, rfl, sA.trans s2⟩⟩))
        · refine ⟨a5, _, _, _, rfl, rfl, SqL.of g5, atI_nat (j := 4) rfl, ?_⟩
          walk_at "go"
          exact wp_kCallS (.inr (.inr ⟨a1, [5, 6], _, rfl, e0, (fun z hz => by simp at hz; omega), by show 2 ≤ 1000; decide, .tup e3, fun H2 s2 => hW _ _ _ ⟨_, rfl, rfl, sA.trans s2⟩⟩))
        · refine ⟨a5, _, _, _, rfl, rfl, SqL.of g5, atI_nat (j := 5) rfl, ?_⟩
          walk_at "go"
          exact wp_kCallS (.inr (.inr ⟨a1, [5, 6], _, rfl, e0, (fun z hz => by simp at hz; omega), by show 2 ≤ 1000; decide, .dk e4, fun H2 s2 => hW _ _ _ ⟨_, rfl, rfl, sA.trans s2⟩⟩))
    · obtain rfl : k = 3 := by
        simp only [decide_eq_false_iff_not] at hc
        have : k ≠ 0 ∧ k ≠ 1 := by simp at *; omega
        omega
      walk_at "go"
      refine wp_callS ?_
      walk_at "go"
      refine wp_lstR (by show 2 ≤ 100000; decide) fun a1 n1 => ?_
      have s1 : Same H (upd H a1 (.lst [.int 5, .int 6])) := same_new (Same.refl _) n1
      have g1 : upd H a1 (.lst [.int 5, .int 6]) a1 = some (.lst [.int 5, .int 6]) := upd_same
      generalize upd H a1 (.lst [.int 5, .int 6]) = H1 at s1 g1 ⊢
      walk_at "go"
      refine wp_lstR (by show 1 ≤ 100000; decide) fun a2 n2 => ?_
      have s2 : Same H1 (upd H1 a2 (.lst [.int 1])) := same_new (Same.refl _) n2
      have g2 : upd H1 a2 (.lst [.int 1]) a2 = some (.lst [.int 1]) := upd_same
      generalize upd H1 a2 (.lst [.int 1]) = H2 at s2 g2 ⊢
      walk_at "go"
      refine wp_kTup (by show 1 ≤ 100000; decide) fun a3 n3 => ?_
      have s3 : Same H2 (upd H2 a3 (.tup [.int 1])) := same_new (Same.refl _) n3
      have g3 : upd H2 a3 (.tup [.int 1]) a3 = some (.tup [.int 1]) := upd_same
      generalize upd H2 a3 (.tup [.int 1]) = H3 at s3 g3 ⊢
      walk_at "go"
      refine wp_lstR (by show 7 ≤ 100000; decide) fun a4 n4 => ?_
      have s4 : Same H3 (upd H3 a4 (.lst [.non, .str "1", .bl true, .ref a2, .ref a3, .int (-1), .int (-1 - m)])) := same_new (Same.refl _) n4
      have g4 : upd H3 a4 (.lst [.non, .str "1", .bl true, .ref a2, .ref a3, .int (-1), .int (-1 - m)]) a4 = some (.lst [.non, .str "1", .bl true, .ref a2, .ref a3, .int (-1), .int (-1 - m)]) := upd_same
      generalize upd H3 a4 (.lst [.non, .str "1", .bl true, .ref a2, .ref a3, .int (-1), .int (-1 - m)]) = H4 at s4 g4 ⊢
      have e0 : H4 a1 = some (.lst (([5, 6] : List Int).map V.int)) := (s4 _ _ (s3 _ _ (s2 _ _ g1)))
      have e2 := (s4 _ _ (s3 _ _ g2))
      have e3 := (s4 _ _ g3)
      have sA : Same H H4 := (((s1.trans s2).trans s3).trans s4)
      clear g1 g2 g3 s1 s2 s3 s4 n1 n2 n3 n4
      walk_at "go"
      have y0 : 0 ≤ w % 7 := Int.emod_nonneg _ (by omega)
      have y1 : w % 7 < 7 := Int.emod_lt_of_pos _ (by omega)
      generalize w % 7 = z at y0 y1 ⊢
      obtain rfl | rfl | rfl | rfl | rfl | rfl | rfl : z = 0 ∨ z = 1 ∨ z = 2 ∨ z = 3 ∨ z = 4 ∨ z = 5 ∨ z = 6 := by omega
      · refine ⟨a4, _, _, _, rfl, rfl, SqL.of g4, atI_nat (j := 0) rfl, ?_⟩
        walk_at "go"
        exact wp_kCallS (.inr (.inr ⟨a1, [5, 6], _, rfl, e0, (fun z hz => by simp at hz; omega), by show 2 ≤ 1000; decide, .inr .non, fun H2 s2 => hW _ _ _ ⟨_, rfl, rfl, sA.trans s2⟩⟩))
      · refine ⟨a4, _, _, _, rfl, rfl, SqL.of g4, atI_nat (j := 1) rfl, ?_⟩
        walk_at "go"
        exact wp_kCallS (.inr (.inr ⟨a1, [5, 6], _, rfl, e0, (fun z hz => by simp at hz; omega), by show 2 ≤ 1000; decide, .inr (.str _), fun H2 s2 => hW _ _ _ ⟨_, rfl, rfl, sA.trans s2⟩⟩))
      · refine ⟨a4, _, _, _, rfl, rfl, SqL.of g4, atI_nat (j := 2) rfl, ?_⟩
        walk_at "go"
        exact wp_kCallS (.inr (.inr ⟨a1, [5, 6], _, rfl, e0, (fun z hz => by simp at hz; omega), by show 2 ≤ 1000; decide, .inr (.bl _), fun H2 s2 => hW _ _ _ ⟨_, rfl, rfl, sA.trans s2⟩⟩))
      · refine ⟨a4, _, _, _, rfl, rfl, SqL.of g4, atI_nat (j := 3) rfl, ?_⟩
        walk_at "go"
        exact wp_kCallS (.inr (.inr ⟨a1, [5, 6], _, rfl, e0, (fun z hz => by simp at hz; omega), by show 2 ≤ 1000; decide, .inr (.lst e2), fun H2 s2 => hW _ _ _ ⟨_, rfl, rfl, sA.trans s2⟩⟩))
      · refine ⟨a4, _, _, _, rfl, rfl, SqL.of g4, atI_nat (j := 4) rfl, ?_⟩
        walk_at "go"
        exact wp_kCallS (.inr (.inr ⟨a1, [5, 6], _, rfl, e0, (fun z hz => by simp at hz; omega), by show 2 ≤ 1000; decide, .inr (.tup e3), fun H2 s2 => hW _ _ _ ⟨_, rfl, rfl, sA.trans s2⟩⟩))
      · refine ⟨a4, _, _, _, rfl, rfl, SqL.of g4, atI_nat (j := 5) rfl, ?_⟩
        walk_at "go"
        exact wp_kCallS (.inr (.inr ⟨a1, [5, 6], _, rfl, e0, (fun z hz => by simp at hz; omega), by show 2 ≤ 1000; decide, .inl ⟨-1, rfl, by omega⟩, fun H2 s2 => hW _ _ _ ⟨_, rfl, rfl, sA.trans s2⟩⟩))
      · refine ⟨a4, _, _, _, rfl, rfl, SqL.of g4, atI_nat (j := 6) rfl, ?_⟩
        walk_at "go"
        exact wp_kCallS (.inr (.inr ⟨a1, [5, 6], _, rfl, e0, (fun z hz => by simp at hz; omega), by show 2 ≤ 1000; decide, .inl ⟨-1 - m, rfl, by omega⟩, fun H2 s2 => hW _ _ _ ⟨_, rfl, rfl, sA.trans s2⟩⟩))
theorem pure_law_k08 {K : PySem.W.Frag} {cs : Cs} {vs : List V} {H : Hp} {Q : VK} {E : XK} (c : OkBest K cs.Best) (c2 : OkAround K cs.Around) (I : IsiC K cs.Never) (kN : PySem.W.kitOne K (.ref cs.Never) (.ref cs.Never) = some true) (h : sp_law_k08 K cs vs H Q E) : t_law_k08 K cs { nx := fun _ H' => Q .non H', rt := Q } (start N_law_k08 vs) H := by
  obtain ⟨s, ns, rfl, hS, hl, k⟩ := h
  unfold t_law_k08
  show (_ : TS) _ [some (.ref s), none, none, none] H
  walk_at "go"
  refine forIS (ns := ns) hS (fun i σ => ∃ v1 v2 v3, σ = [some (.ref s), v1, v2, v3]) ⟨_, _, _, rfl⟩ (fun i σ H1 hi h s1 => ?_) (fun σ H1 h s1 => ?_)
  · obtain ⟨v1, v2, v3, rfl⟩ := h
    generalize nth ns (i : Int) = x
    walk_at "go"
    refine wp_lstR (by show 5 ≤ 100000; decide) fun d nd => ?_
    have hd : upd H1 d (.lst ((dueL (x % 4)).map V.bl)) d = some (.lst ((dueL (x % 4)).map V.bl)) := upd_same
    have sd : Same H1 (upd H1 d (.lst ((dueL (x % 4)).map V.bl))) := same_new (Same.refl _) nd
    have z0 : 0 ≤ x % 4 := Int.emod_nonneg _ (by omega)
    have z1 : x % 4 < 4 := Int.emod_lt_of_pos _ (by omega)
    walk_at "go"
    refine ⟨x % 4, _, _, rfl, z0, z1, Int.emod_nonneg _ (by omega), Int.emod_lt_of_pos _ (by omega), fun p H2 np s2 hp => ?_⟩
    have hd2 : H2 d = some (.lst ((dueL (x % 4)).map V.bl)) := s2 _ _ hd
    walk_at "go"
    refine wp_neBs (SqL.of hp) (SqL.of hd2) ?_
    walk_at "go"
    exact ⟨⟨_, _, _, rfl⟩, (s1.trans sd).trans s2⟩
  · obtain ⟨v1, v2, v3, rfl⟩ := h
    clear s1
    walk_at "go"
    refine wp_lst0 fun e1 n1 => ?_
    walk_at "go"
    refine .inl ⟨e1, [], rfl, upd_same, (fun z hz => by cases hz), by show 0 ≤ 1000; decide, fun p H2 np s2 hp => ?_⟩
    walk_at "go"
    refine wp_lst1 fun e2 n2 => ?_
    have hp2 := at_new (o' := .lst (([0] : List Int).map V.int)) hp n2
    have h02 : upd H2 e2 (.lst (([0] : List Int).map V.int)) e2 = some (.lst (([0] : List Int).map V.int)) := upd_same
    generalize upd H2 e2 (.lst (([0] : List Int).map V.int)) = H3 at hp2 h02 ⊢
    refine wp_neL (SqL.of hp2) (SqL.of h02) ?_
    rw [psums_nil]
    simp only [decide_true, Bool.not_true]
    walk_at "go"
    refine wp_lst0 fun e3 n3 => ?_
    walk_at "go"
    refine .inl ⟨e3, [], 0, rfl, upd_same, (fun z hz => by cases hz), by show 0 ≤ 1000; decide, fun H4 s4 => ?_⟩
    rw [cnt_nil]
    walk_at "go"
    simp only [decide_true, Bool.not_true]
    walk_at "go"
    refine wp_lst2 fun a na => ?_
    walk_at "go"
    refine .inl ⟨a, [1000000, -1000000], 2, rfl, upd_same, (fun z hz => by simp at hz; omega), by decide, by show (2 : Int) ≤ 2; decide, by show 2 ≤ 1000; decide, fun x dx lw f m ls H5 B nx nlw nxl s5 hx hlw => ?_⟩
    have hm : m = 2 := by
      have b1 := B.f0
      have b2 := B.m0
      have b3 : f + m ≤ 2 := B.fm
      omega
    subst hm
    walk_at "go"
    simp only [decide_true, Bool.not_true, Bool.or_false]
    walk_at "go"
    refine wp_lst2 fun a2 na2 => ?_
    walk_at "go"
    refine ⟨10, 30, rfl, rfl, ⟨by decide, by decide, by decide⟩, ?_⟩
    walk_at "go"
    refine .inl ⟨a2, [1, 1], _, rfl, upd_same, (fun z hz => by simp at hz; omega), by decide, fun x2 dx2 f2 m2 H6 SH _ _ _ _ => ?_, fun x2 dx2 tb rs H6 _ _ _ _ nx2 ntb s6 hx2 htb _ _ => ?_⟩
    · have h1 := seg_11 SH.1
      have h2 := SH.2
      have h3 : (2 : Int) < 10 ^ (30 : Int).toNat := by decide
      omega
    walk_at "go"
    refine wp_lst1 fun a3 na3 => ?_
    walk_at "go"
    refine .inl ⟨a3, [-5], rfl, upd_same, (fun z hz => by simp at hz; omega), by decide, by decide, fun x3 dx3 lw3 tp3 f3 m3 ls3 ts3 H7 A _ _ _ _ _ hx3 _ _ => ?_⟩
    have hm3 : m3 = 1 := by
      have b1 := A.m0
      have b2 : m3 ≤ 1 := A.m1
      omega
    subst hm3
    walk_at "go"
    simp only [decide_true]
    exact k _
end Bs
namespace Bs
open PySem L2
def top (i : Nat) : Stmt := PySem.Challenge.pw_beststretch_k08_refused.main.body.getD i (.Pass ⟨0, 0, 0, 0⟩)
abbrev s_Around_init : Stmt := inClass (top 20) 0
theorem sc_Around_init : FnScope N_Around_init (["self", "first", "many", "lows", "tops"] : List Str) (defScope s_Around_init) := ⟨rfl, rfl, rfl, by decide +kernel, rfl, by decide +kernel, by decide +kernel⟩
abbrev s_is_number_k08 : Stmt := top 9
theorem sc_is_number_k08 : FnScope N_is_number_k08 (["thing"] : List Str) (defScope s_is_number_k08) := ⟨rfl, rfl, rfl, by decide +kernel, rfl, by decide +kernel, by decide +kernel⟩
abbrev s_asked_least_k08 : Stmt := top 11
theorem sc_asked_least_k08 : FnScope N_asked_least_k08 (["row", "least"] : List Str) (defScope s_asked_least_k08) := ⟨rfl, rfl, rfl, by decide +kernel, rfl, by decide +kernel, by decide +kernel⟩
abbrev s_asked_row_k08 : Stmt := top 10
theorem sc_asked_row_k08 : FnScope N_asked_row_k08 (["row"] : List Str) (defScope s_asked_row_k08) := ⟨rfl, rfl, rfl, by decide +kernel, rfl, by decide +kernel, by decide +kernel⟩
abbrev s_summed : Stmt := top 14
theorem sc_summed : FnScope N_summed (["row"] : List Str) (defScope s_summed) := ⟨rfl, rfl, rfl, by decide +kernel, rfl, by decide +kernel, by decide +kernel⟩
abbrev s_best_of : Stmt := top 25
theorem sc_best_of : FnScope N_best_of (["row", "least"] : List Str) (defScope s_best_of) := ⟨rfl, rfl, rfl, by decide +kernel, rfl, by decide +kernel, by decide +kernel⟩
abbrev s_around_k08 : Stmt := top 28
theorem sc_around_k08 : FnScope N_around_k08 (["row"] : List Str) (defScope s_around_k08) := ⟨rfl, rfl, rfl, by decide +kernel, rfl, by decide +kernel, by decide +kernel⟩
abbrev s_Best_init : Stmt := inClass (top 18) 0
theorem sc_Best_init : FnScope N_Best_init (["self", "first", "many", "lows"] : List Str) (defScope s_Best_init) := ⟨rfl, rfl, rfl, by decide +kernel, rfl, by decide +kernel, by decide +kernel⟩
abbrev s_best_k08 : Stmt := top 26
theorem sc_best_k08 : FnScope N_best_k08 (["row", "least"] : List Str) (defScope s_best_k08) := ⟨rfl, rfl, rfl, by decide +kernel, rfl, by decide +kernel, by decide +kernel⟩
abbrev s_Exact_init : Stmt := inClass (top 21) 0
theorem sc_Exact_init : FnScope N_Exact_init (["self", "first", "many"] : List Str) (defScope s_Exact_init) := ⟨rfl, rfl, rfl, by decide +kernel, rfl, by decide +kernel, by decide +kernel⟩
abbrev s_Never_init : Stmt := inClass (top 22) 0
theorem sc_Never_init : FnScope N_Never_init (["self", "table"] : List Str) (defScope s_Never_init) := ⟨rfl, rfl, rfl, by decide +kernel, rfl, by decide +kernel, by decide +kernel⟩
abbrev s_asked_total_k08 : Stmt := top 12
theorem sc_asked_total_k08 : FnScope N_asked_total_k08 (["total"] : List Str) (defScope s_asked_total_k08) := ⟨rfl, rfl, rfl, by decide +kernel, rfl, by decide +kernel, by decide +kernel⟩
abbrev s_exact_k08 : Stmt := top 30
theorem sc_exact_k08 : FnScope N_exact_k08 (["row", "total"] : List Str) (defScope s_exact_k08) := ⟨rfl, rfl, rfl, by decide +kernel, rfl, by decide +kernel, by decide +kernel⟩
abbrev s_how_many_k08 : Stmt := top 31
theorem sc_how_many_k08 : FnScope N_how_many_k08 (["row", "total"] : List Str) (defScope s_how_many_k08) := ⟨rfl, rfl, rfl, by decide +kernel, rfl, by decide +kernel, by decide +kernel⟩
abbrev s_Several_init : Stmt := inClass (top 23) 0
theorem sc_Several_init : FnScope N_Several_init (["self", "stretches", "price", "outs", "ins"] : List Str) (defScope s_Several_init) := ⟨rfl, rfl, rfl, by decide +kernel, rfl, by decide +kernel, by decide +kernel⟩
abbrev s_added : Stmt := top 33
theorem sc_added : FnScope N_added (["row", "best"] : List Str) (defScope s_added) := ⟨rfl, rfl, rfl, by decide +kernel, rfl, by decide +kernel, by decide +kernel⟩
abbrev s_asked_many_k08 : Stmt := top 13
theorem sc_asked_many_k08 : FnScope N_asked_many_k08 (["many"] : List Str) (defScope s_asked_many_k08) := ⟨rfl, rfl, rfl, by decide +kernel, rfl, by decide +kernel, by decide +kernel⟩
abbrev s_bounds : Stmt := top 35
theorem sc_bounds : FnScope N_bounds (["row", "price"] : List Str) (defScope s_bounds) := ⟨rfl, rfl, rfl, by decide +kernel, rfl, by decide +kernel, by decide +kernel⟩
abbrev s_stretches_of : Stmt := top 34
theorem sc_stretches_of : FnScope N_stretches_of (["levels", "length"] : List Str) (defScope s_stretches_of) := ⟨rfl, rfl, rfl, by decide +kernel, rfl, by decide +kernel, by decide +kernel⟩
abbrev s_several_k08 : Stmt := top 36
theorem sc_several_k08 : FnScope N_several_k08 (["row", "many"] : List Str) (defScope s_several_k08) := ⟨rfl, rfl, rfl, by decide +kernel, rfl, by decide +kernel, by decide +kernel⟩
abbrev s_Steep_init : Stmt := inClass (top 19) 0
theorem sc_Steep_init : FnScope N_Steep_init (["self", "first", "many", "lows"] : List Str) (defScope s_Steep_init) := ⟨rfl, rfl, rfl, by decide +kernel, rfl, by decide +kernel, by decide +kernel⟩
abbrev s_steepest_k08 : Stmt := top 27
theorem sc_steepest_k08 : FnScope N_steepest_k08 (["row", "least"] : List Str) (defScope s_steepest_k08) := ⟨rfl, rfl, rfl, by decide +kernel, rfl, by decide +kernel, by decide +kernel⟩
abbrev s_sums_k08 : Stmt := top 15
theorem sc_sums_k08 : FnScope N_sums_k08 (["row"] : List Str) (defScope s_sums_k08) := ⟨rfl, rfl, rfl, by decide +kernel, rfl, by decide +kernel, by decide +kernel⟩
abbrev s_l_rows_asked_k08 : Stmt := top 38
theorem sc_l_rows_asked_k08 : FnScope N_l_rows_asked_k08 (["_law_which", "_law_more"] : List Str) (defScope s_l_rows_asked_k08) := ⟨rfl, rfl, rfl, by decide +kernel, rfl, by decide +kernel, by decide +kernel⟩
abbrev s_l_told_k08 : Stmt := top 39
theorem sc_l_told_k08 : FnScope N_l_told_k08 (["_law_kind", "_law_which", "_law_more"] : List Str) (defScope s_l_told_k08) := ⟨rfl, rfl, rfl, by decide +kernel, rfl, by decide +kernel, by decide +kernel⟩
abbrev s_law_k08 : Stmt := top 40
theorem sc_law_k08 : FnScope N_law_k08 (["_law_script"] : List Str) (defScope s_law_k08) := ⟨rfl, rfl, rfl, by decide +kernel, rfl, by decide +kernel, by decide +kernel⟩
structure Txt (K : PySem.W.Frag) (mg : Str → Option Value) (cs : Cs) where
  n_ValueError : mg "ValueError" = none
  n_all : mg "all" = none
  n_bool : mg "bool" = none
  n_enumerate : mg "enumerate" = none
  n_int : mg "int" = none
  n_isinstance : mg "isinstance" = none
  n_len : mg "len" = none
  n_list : mg "list" = none
  n_max : mg "max" = none
  n_min : mg "min" = none
  n_range : mg "range" = none
  n_sorted : mg "sorted" = none
  n_sum : mg "sum" = none
  k_FARTHEST : Tok
  g_FARTHEST : mg "FARTHEST" = some (.int 1000000 k_FARTHEST)
  g_Around : mg "Around" = some (.ref cs.Around)
  g_BadLeast : mg "BadLeast" = some (.ref cs.BadLeast)
  g_BadMany : mg "BadMany" = some (.ref cs.BadMany)
  g_BadRow : mg "BadRow" = some (.ref cs.BadRow)
  g_BadTotal : mg "BadTotal" = some (.ref cs.BadTotal)
  g_Best : mg "Best" = some (.ref cs.Best)
  g_Exact : mg "Exact" = some (.ref cs.Exact)
  g_Never : mg "Never" = some (.ref cs.Never)
  g_Several : mg "Several" = some (.ref cs.Several)
  g_Steep : mg "Steep" = some (.ref cs.Steep)
  g_StretchError : mg "StretchError" = some (.ref cs.StretchError)
  cl_Around : Cls K cs.Around
  cl_Best : Cls K cs.Best
  cl_Exact : Cls K cs.Exact
  cl_Never : Cls K cs.Never
  cl_Several : Cls K cs.Several
  cl_Steep : Cls K cs.Steep
  na_Around_first : NoAttr K cs.Around "first"
  na_Around_lows : NoAttr K cs.Around "lows"
  na_Around_many : NoAttr K cs.Around "many"
  na_Around_tops : NoAttr K cs.Around "tops"
  na_Best_first : NoAttr K cs.Best "first"
  na_Best_lows : NoAttr K cs.Best "lows"
  na_Best_many : NoAttr K cs.Best "many"
  na_Exact_first : NoAttr K cs.Exact "first"
  na_Exact_many : NoAttr K cs.Exact "many"
  na_Never_table : NoAttr K cs.Never "table"
  na_Several_ins : NoAttr K cs.Several "ins"
  na_Several_outs : NoAttr K cs.Several "outs"
  na_Several_price : NoAttr K cs.Several "price"
  na_Several_stretches : NoAttr K cs.Several "stretches"
  na_Steep_first : NoAttr K cs.Steep "first"
  na_Steep_lows : NoAttr K cs.Steep "lows"
  na_Steep_many : NoAttr K cs.Steep "many"
  f_Around_init : Addr
  d_Around_init : FuncData
  F_Around_init : Fun K "__init__" "Around.__init__" s_Around_init f_Around_init d_Around_init
  b_Around_init : Binds K d_Around_init (["self", "first", "many", "lows", "tops"] : List Str) []
  f_is_number_k08 : Addr
  d_is_number_k08 : FuncData
  F_is_number_k08 : Fun K "is_number" "is_number" s_is_number_k08 f_is_number_k08 d_is_number_k08
  b_is_number_k08 : Binds K d_is_number_k08 (["thing"] : List Str) []
  g_is_number_k08 : mg "is_number" = some (.ref f_is_number_k08)
  f_asked_least_k08 : Addr
  d_asked_least_k08 : FuncData
  F_asked_least_k08 : Fun K "asked_least" "asked_least" s_asked_least_k08 f_asked_least_k08 d_asked_least_k08
  b_asked_least_k08 : Binds K d_asked_least_k08 (["row", "least"] : List Str) []
  g_asked_least_k08 : mg "asked_least" = some (.ref f_asked_least_k08)
  f_asked_row_k08 : Addr
  d_asked_row_k08 : FuncData
  F_asked_row_k08 : Fun K "asked_row" "asked_row" s_asked_row_k08 f_asked_row_k08 d_asked_row_k08
  b_asked_row_k08 : Binds K d_asked_row_k08 (["row"] : List Str) []
  g_asked_row_k08 : mg "asked_row" = some (.ref f_asked_row_k08)
  f_summed : Addr
  d_summed : FuncData
  F_summed : Fun K "summed" "summed" s_summed f_summed d_summed
  b_summed : Binds K d_summed (["row"] : List Str) []
  g_summed : mg "summed" = some (.ref f_summed)
  f_best_of : Addr
  d_best_of : FuncData
  F_best_of : Fun K "best_of" "best_of" s_best_of f_best_of d_best_of
  b_best_of : Binds K d_best_of (["row", "least"] : List Str) []
  g_best_of : mg "best_of" = some (.ref f_best_of)
  f_around_k08 : Addr
  d_around_k08 : FuncData
  F_around_k08 : Fun K "around" "around" s_around_k08 f_around_k08 d_around_k08
  b_around_k08 : Binds K d_around_k08 (["row"] : List Str) []
  g_around_k08 : mg "around" = some (.ref f_around_k08)
  f_Best_init : Addr
  d_Best_init : FuncData
  F_Best_init : Fun K "__init__" "Best.__init__" s_Best_init f_Best_init d_Best_init
  b_Best_init : Binds K d_Best_init (["self", "first", "many", "lows"] : List Str) []
  f_best_k08 : Addr
  d_best_k08 : FuncData
  F_best_k08 : Fun K "best" "best" s_best_k08 f_best_k08 d_best_k08
  b_best_k08 : Binds K d_best_k08 (["row", "least"] : List Str) []
  g_best_k08 : mg "best" = some (.ref f_best_k08)
  f_Exact_init : Addr
  d_Exact_init : FuncData
  F_Exact_init : Fun K "__init__" "Exact.__init__" s_Exact_init f_Exact_init d_Exact_init
  b_Exact_init : Binds K d_Exact_init (["self", "first", "many"] : List Str) []
  f_Never_init : Addr
  d_Never_init : FuncData
  F_Never_init : Fun K "__init__" "Never.__init__" s_Never_init f_Never_init d_Never_init
  b_Never_init : Binds K d_Never_init (["self", "table"] : List Str) []
  f_asked_total_k08 : Addr
  d_asked_total_k08 : FuncData
  F_asked_total_k08 : Fun K "asked_total" "asked_total" s_asked_total_k08 f_asked_total_k08 d_asked_total_k08
  b_asked_total_k08 : Binds K d_asked_total_k08 (["total"] : List Str) []
  g_asked_total_k08 : mg "asked_total" = some (.ref f_asked_total_k08)
  f_exact_k08 : Addr
  d_exact_k08 : FuncData
  F_exact_k08 : Fun K "exact" "exact" s_exact_k08 f_exact_k08 d_exact_k08
  b_exact_k08 : Binds K d_exact_k08 (["row", "total"] : List Str) []
  g_exact_k08 : mg "exact" = some (.ref f_exact_k08)
  f_how_many_k08 : Addr
  d_how_many_k08 : FuncData
  F_how_many_k08 : Fun K "how_many" "how_many" s_how_many_k08 f_how_many_k08 d_how_many_k08
  b_how_many_k08 : Binds K d_how_many_k08 (["row", "total"] : List Str) []
  g_how_many_k08 : mg "how_many" = some (.ref f_how_many_k08)
  f_Several_init : Addr
  d_Several_init : FuncData
  F_Several_init : Fun K "__init__" "Several.__init__" s_Several_init f_Several_init d_Several_init
  b_Several_init : Binds K d_Several_init (["self", "stretches", "price", "outs", "ins"] : List Str) []
  f_added : Addr
  d_added : FuncData
  F_added : Fun K "added" "added" s_added f_added d_added
  b_added : Binds K d_added (["row", "best"] : List Str) []
  g_added : mg "added" = some (.ref f_added)
  f_asked_many_k08 : Addr
  d_asked_many_k08 : FuncData
  F_asked_many_k08 : Fun K "asked_many" "asked_many" s_asked_many_k08 f_asked_many_k08 d_asked_many_k08
  b_asked_many_k08 : Binds K d_asked_many_k08 (["many"] : List Str) []
  g_asked_many_k08 : mg "asked_many" = some (.ref f_asked_many_k08)
  f_bounds : Addr
  d_bounds : FuncData
  F_bounds : Fun K "bounds" "bounds" s_bounds f_bounds d_bounds
  b_bounds : Binds K d_bounds (["row", "price"] : List Str) []
  g_bounds : mg "bounds" = some (.ref f_bounds)
  f_stretches_of : Addr
  d_stretches_of : FuncData
  F_stretches_of : Fun K "stretches_of" "stretches_of" s_stretches_of f_stretches_of d_stretches_of
  b_stretches_of : Binds K d_stretches_of (["levels", "length"] : List Str) []
  g_stretches_of : mg "stretches_of" = some (.ref f_stretches_of)
  f_several_k08 : Addr
  d_several_k08 : FuncData
  F_several_k08 : Fun K "several" "several" s_several_k08 f_several_k08 d_several_k08
  b_several_k08 : Binds K d_several_k08 (["row", "many"] : List Str) []
  g_several_k08 : mg "several" = some (.ref f_several_k08)
  f_Steep_init : Addr
  d_Steep_init : FuncData
  F_Steep_init : Fun K "__init__" "Steep.__init__" s_Steep_init f_Steep_init d_Steep_init
  b_Steep_init : Binds K d_Steep_init (["self", "first", "many", "lows"] : List Str) []
  f_steepest_k08 : Addr
  d_steepest_k08 : FuncData
  F_steepest_k08 : Fun K "steepest" "steepest" s_steepest_k08 f_steepest_k08 d_steepest_k08
  b_steepest_k08 : Binds K d_steepest_k08 (["row", "least"] : List Str) []
  g_steepest_k08 : mg "steepest" = some (.ref f_steepest_k08)
  f_sums_k08 : Addr
  d_sums_k08 : FuncData
  F_sums_k08 : Fun K "sums" "sums" s_sums_k08 f_sums_k08 d_sums_k08
  b_sums_k08 : Binds K d_sums_k08 (["row"] : List Str) []
  g_sums_k08 : mg "sums" = some (.ref f_sums_k08)
  f_l_rows_asked_k08 : Addr
  d_l_rows_asked_k08 : FuncData
  F_l_rows_asked_k08 : Fun K "_law_rows_asked" "_law_rows_asked" s_l_rows_asked_k08 f_l_rows_asked_k08 d_l_rows_asked_k08
  b_l_rows_asked_k08 : Binds K d_l_rows_asked_k08 (["_law_which", "_law_more"] : List Str) []
  g_l_rows_asked_k08 : mg "_law_rows_asked" = some (.ref f_l_rows_asked_k08)
  f_l_told_k08 : Addr
  d_l_told_k08 : FuncData
  F_l_told_k08 : Fun K "_law_told" "_law_told" s_l_told_k08 f_l_told_k08 d_l_told_k08
  b_l_told_k08 : Binds K d_l_told_k08 (["_law_kind", "_law_which", "_law_more"] : List Str) []
  g_l_told_k08 : mg "_law_told" = some (.ref f_l_told_k08)
  f_law_k08 : Addr
  d_law_k08 : FuncData
  F_law_k08 : Fun K "law" "law" s_law_k08 f_law_k08 d_law_k08
  b_law_k08 : Binds K d_law_k08 (["_law_script"] : List Str) []
  g_law_k08 : mg "law" = some (.ref f_law_k08)
  mk_Around : Mk K cs.Around f_Around_init
  mk_Best : Mk K cs.Best f_Best_init
  mk_Exact : Mk K cs.Exact f_Exact_init
  mk_Never : Mk K cs.Never f_Never_init
  mk_Several : Mk K cs.Several f_Several_init
  mk_Steep : Mk K cs.Steep f_Steep_init
  xn : PySem.W.specialIn K (.builtin "object.__class__") "__get__" = some (some (.builtin "getset_descriptor.__get__"))
  xt : PySem.W.takesIn K (.builtin "object.__class__") = some true
  xa_Exact : PySem.W.findIn K (.ref cs.Exact) "__class__" = some (some (.builtin "object.__class__"))
  xm_Exact : PySem.W.mroIn K cs.Exact (.type "object") = some true
  xc_Never : PySem.W.isClsIn K cs.Never = true
  xy_Never : PySem.W.typeIn K (.ref cs.Never) = some (.type "type")
  xs_Exact : PySem.W.subIn K (.ref cs.Exact) (.ref cs.Exact) = some true
  xk_Exact_Never : PySem.W.subIn K (.ref cs.Exact) (.ref cs.Never) = some false
  xa_Never : PySem.W.findIn K (.ref cs.Never) "__class__" = some (some (.builtin "object.__class__"))
  xm_Never : PySem.W.mroIn K cs.Never (.type "object") = some true
  xs_Never : PySem.W.subIn K (.ref cs.Never) (.ref cs.Never) = some true
  xk_Never_Never : PySem.W.subIn K (.ref cs.Never) (.ref cs.Never) = some true
  se_b : PySem.W.subIn K (.ref cs.StretchError) (.type "BaseException") = some true
  se_d : PySem.W.hasDictIn K cs.StretchError = true
  se_t : PySem.W.typeIn K (.ref cs.StretchError) = some (.type "type")
  ex_BadRow : PySem.W.excIn K cs.BadRow [.type "ValueError", .type "Exception", .type "BaseException", .type "object"] "ValueError.__new__" = true
  kp_BadRow : PySem.W.keepIn K (.ref cs.BadRow) = true
  eb_BadRow : PySem.W.subIn K (.ref cs.BadRow) (.type "BaseException") = some true
  et_BadRow : PySem.W.typeIn K (.ref cs.BadRow) = some (.type "type")
  eg_BadRow : PySem.W.findIn K (.ref cs.BadRow) "__getattribute__" = some (some (.builtin "BaseException.__getattribute__"))
  ek_BadRow : PySem.W.findIn K (.ref cs.BadRow) "__getattr__" = some none
  ed_BadRow : PySem.W.hasDictIn K cs.BadRow = true
  ea_BadRow : PySem.W.findIn K (.ref cs.BadRow) "__class__" = some (some (.builtin "object.__class__"))
  em_BadRow : PySem.W.mroIn K cs.BadRow (.type "object") = some true
  ec_BadRow : PySem.W.isClsIn K cs.BadRow = true
  ev_BadRow : PySem.W.subIn K (.ref cs.BadRow) (.type "ValueError") = some true
  es_BadRow : PySem.W.subIn K (.ref cs.BadRow) (.ref cs.StretchError) = some true
  ek_BadRow_BadRow : PySem.W.subIn K (.ref cs.BadRow) (.ref cs.BadRow) = some true
  ek_BadRow_BadLeast : PySem.W.subIn K (.ref cs.BadRow) (.ref cs.BadLeast) = some false
  ek_BadRow_BadTotal : PySem.W.subIn K (.ref cs.BadRow) (.ref cs.BadTotal) = some false
  ek_BadRow_BadMany : PySem.W.subIn K (.ref cs.BadRow) (.ref cs.BadMany) = some false
  ex_BadLeast : PySem.W.excIn K cs.BadLeast [.type "ValueError", .type "Exception", .type "BaseException", .type "object"] "ValueError.__new__" = true
  kp_BadLeast : PySem.W.keepIn K (.ref cs.BadLeast) = true
  eb_BadLeast : PySem.W.subIn K (.ref cs.BadLeast) (.type "BaseException") = some true
  et_BadLeast : PySem.W.typeIn K (.ref cs.BadLeast) = some (.type "type")
  eg_BadLeast : PySem.W.findIn K (.ref cs.BadLeast) "__getattribute__" = some (some (.builtin "BaseException.__getattribute__"))
  ek_BadLeast : PySem.W.findIn K (.ref cs.BadLeast) "__getattr__" = some none
  ed_BadLeast : PySem.W.hasDictIn K cs.BadLeast = true
  ea_BadLeast : PySem.W.findIn K (.ref cs.BadLeast) "__class__" = some (some (.builtin "object.__class__"))
  em_BadLeast : PySem.W.mroIn K cs.BadLeast (.type "object") = some true
  ec_BadLeast : PySem.W.isClsIn K cs.BadLeast = true
  ev_BadLeast : PySem.W.subIn K (.ref cs.BadLeast) (.type "ValueError") = some true
  es_BadLeast : PySem.W.subIn K (.ref cs.BadLeast) (.ref cs.StretchError) = some true
  ek_BadLeast_BadRow : PySem.W.subIn K (.ref cs.BadLeast) (.ref cs.BadRow) = some false
  ek_BadLeast_BadLeast : PySem.W.subIn K (.ref cs.BadLeast) (.ref cs.BadLeast) = some true
  ek_BadLeast_BadTotal : PySem.W.subIn K (.ref cs.BadLeast) (.ref cs.BadTotal) = some false
  ek_BadLeast_BadMany : PySem.W.subIn K (.ref cs.BadLeast) (.ref cs.BadMany) = some false
  ex_BadTotal : PySem.W.excIn K cs.BadTotal [.type "ValueError", .type "Exception", .type "BaseException", .type "object"] "ValueError.__new__" = true
  kp_BadTotal : PySem.W.keepIn K (.ref cs.BadTotal) = true
  eb_BadTotal : PySem.W.subIn K (.ref cs.BadTotal) (.type "BaseException") = some true
  et_BadTotal : PySem.W.typeIn K (.ref cs.BadTotal) = some (.type "type")
  eg_BadTotal : PySem.W.findIn K (.ref cs.BadTotal) "__getattribute__" = some (some (.builtin "BaseException.__getattribute__"))
  ek_BadTotal : PySem.W.findIn K (.ref cs.BadTotal) "__getattr__" = some none
  ed_BadTotal : PySem.W.hasDictIn K cs.BadTotal = true
  ea_BadTotal : PySem.W.findIn K (.ref cs.BadTotal) "__class__" = some (some (.builtin "object.__class__"))
  em_BadTotal : PySem.W.mroIn K cs.BadTotal (.type "object") = some true
  ec_BadTotal : PySem.W.isClsIn K cs.BadTotal = true
  ev_BadTotal : PySem.W.subIn K (.ref cs.BadTotal) (.type "ValueError") = some true
  es_BadTotal : PySem.W.subIn K (.ref cs.BadTotal) (.ref cs.StretchError) = some true
  ek_BadTotal_BadRow : PySem.W.subIn K (.ref cs.BadTotal) (.ref cs.BadRow) = some false
  ek_BadTotal_BadLeast : PySem.W.subIn K (.ref cs.BadTotal) (.ref cs.BadLeast) = some false
  ek_BadTotal_BadTotal : PySem.W.subIn K (.ref cs.BadTotal) (.ref cs.BadTotal) = some true
  ek_BadTotal_BadMany : PySem.W.subIn K (.ref cs.BadTotal) (.ref cs.BadMany) = some false
  ex_BadMany : PySem.W.excIn K cs.BadMany [.type "ValueError", .type "Exception", .type "BaseException", .type "object"] "ValueError.__new__" = true
  kp_BadMany : PySem.W.keepIn K (.ref cs.BadMany) = true
  eb_BadMany : PySem.W.subIn K (.ref cs.BadMany) (.type "BaseException") = some true
  et_BadMany : PySem.W.typeIn K (.ref cs.BadMany) = some (.type "type")
  eg_BadMany : PySem.W.findIn K (.ref cs.BadMany) "__getattribute__" = some (some (.builtin "BaseException.__getattribute__"))
  ek_BadMany : PySem.W.findIn K (.ref cs.BadMany) "__getattr__" = some none
  ed_BadMany : PySem.W.hasDictIn K cs.BadMany = true
  ea_BadMany : PySem.W.findIn K (.ref cs.BadMany) "__class__" = some (some (.builtin "object.__class__"))
  em_BadMany : PySem.W.mroIn K cs.BadMany (.type "object") = some true
  ec_BadMany : PySem.W.isClsIn K cs.BadMany = true
  ev_BadMany : PySem.W.subIn K (.ref cs.BadMany) (.type "ValueError") = some true
  es_BadMany : PySem.W.subIn K (.ref cs.BadMany) (.ref cs.StretchError) = some true
  ek_BadMany_BadRow : PySem.W.subIn K (.ref cs.BadMany) (.ref cs.BadRow) = some false
  ek_BadMany_BadLeast : PySem.W.subIn K (.ref cs.BadMany) (.ref cs.BadLeast) = some false
  ek_BadMany_BadTotal : PySem.W.subIn K (.ref cs.BadMany) (.ref cs.BadTotal) = some false
  ek_BadMany_BadMany : PySem.W.subIn K (.ref cs.BadMany) (.ref cs.BadMany) = some true
  e_around : f_around_k08 = cs.f_around
  e_best : f_best_k08 = cs.f_best
  e_exact : f_exact_k08 = cs.f_exact
  e_how_many : f_how_many_k08 = cs.f_how_many
  e_several : f_several_k08 = cs.f_several
  e_steepest : f_steepest_k08 = cs.f_steepest
  e_sums : f_sums_k08 = cs.f_sums
section
variable {P : Program} {w : World} {K : PySem.W.Frag} {mg : Str → Option Value} {base : Heap} {cs : Cs}
theorem T_isi_Exact (T : Txt K mg cs) : IsiC K cs.Exact := ⟨T.cl_Exact, T.xa_Exact, T.xn, T.xt, T.xm_Exact⟩
theorem T_kit_Exact_Never (T : Txt K mg cs) : PySem.W.kitOne K (.ref cs.Exact) (.ref cs.Never) = some false := kitOne_of T.xc_Never T.xy_Never T.xk_Exact_Never T.xs_Exact
theorem T_isi_Never (T : Txt K mg cs) : IsiC K cs.Never := ⟨T.cl_Never, T.xa_Never, T.xn, T.xt, T.xm_Never⟩
theorem T_kit_Never_Never (T : Txt K mg cs) : PySem.W.kitOne K (.ref cs.Never) (.ref cs.Never) = some true := kitOne_of T.xc_Never T.xy_Never T.xk_Never_Never T.xs_Never
theorem T_okAround (T : Txt K mg cs) : OkAround K cs.Around := ⟨T.cl_Around, T.na_Around_first, T.na_Around_many, T.na_Around_lows, T.na_Around_tops⟩
theorem T_okBest (T : Txt K mg cs) : OkBest K cs.Best := ⟨T.cl_Best, T.na_Best_first, T.na_Best_many, T.na_Best_lows⟩
theorem T_okExact (T : Txt K mg cs) : OkExact K cs.Exact := ⟨T.cl_Exact, T.na_Exact_first, T.na_Exact_many⟩
theorem T_okNever (T : Txt K mg cs) : OkNever K cs.Never := ⟨T.cl_Never, T.na_Never_table⟩
theorem T_okSeveral (T : Txt K mg cs) : OkSeveral K cs.Several := ⟨T.cl_Several, T.na_Several_stretches, T.na_Several_price, T.na_Several_outs, T.na_Several_ins⟩
theorem T_okSteep (T : Txt K mg cs) : OkSteep K cs.Steep := ⟨T.cl_Steep, T.na_Steep_first, T.na_Steep_many, T.na_Steep_lows⟩
theorem T_exc_BadRow (T : Txt K mg cs) : ExcC K cs.BadRow := ⟨T.eg_BadRow, T.ek_BadRow, T.eb_BadRow, T.ed_BadRow, T.ea_BadRow, T.xn, T.xt, T.em_BadRow⟩
theorem T_exm_BadRow (T : Txt K mg cs) : PySem.W.exmOne K (.ref cs.BadRow) (.ref cs.StretchError) = some true := PySem.W.exm_ref T.se_b T.se_d T.se_t T.es_BadRow
theorem T_kv_BadRow (T : Txt K mg cs) : PySem.W.kitOne K (.ref cs.BadRow) (.type "ValueError") = some true := kitType (by decide +kernel) T.ev_BadRow
theorem T_ke_BadRow_BadRow (T : Txt K mg cs) : PySem.W.kitOne K (.ref cs.BadRow) (.ref cs.BadRow) = some true := kitOne_of T.ec_BadRow T.et_BadRow T.ek_BadRow_BadRow T.ek_BadRow_BadRow
theorem T_ke_BadRow_BadLeast (T : Txt K mg cs) : PySem.W.kitOne K (.ref cs.BadRow) (.ref cs.BadLeast) = some false := kitOne_of T.ec_BadLeast T.et_BadLeast T.ek_BadRow_BadLeast T.ek_BadRow_BadRow
theorem T_ke_BadRow_BadTotal (T : Txt K mg cs) : PySem.W.kitOne K (.ref cs.BadRow) (.ref cs.BadTotal) = some false := kitOne_of T.ec_BadTotal T.et_BadTotal T.ek_BadRow_BadTotal T.ek_BadRow_BadRow
theorem T_ke_BadRow_BadMany (T : Txt K mg cs) : PySem.W.kitOne K (.ref cs.BadRow) (.ref cs.BadMany) = some false := kitOne_of T.ec_BadMany T.et_BadMany T.ek_BadRow_BadMany T.ek_BadRow_BadRow
theorem T_exc_BadLeast (T : Txt K mg cs) : ExcC K cs.BadLeast := ⟨T.eg_BadLeast, T.ek_BadLeast, T.eb_BadLeast, T.ed_BadLeast, T.ea_BadLeast, T.xn, T.xt, T.em_BadLeast⟩
theorem T_exm_BadLeast (T : Txt K mg cs) : PySem.W.exmOne K (.ref cs.BadLeast) (.ref cs.StretchError) = some true := PySem.W.exm_ref T.se_b T.se_d T.se_t T.es_BadLeast
theorem T_kv_BadLeast (T : Txt K mg cs) : PySem.W.kitOne K (.ref cs.BadLeast) (.type "ValueError") = some true := kitType (by decide +kernel) T.ev_BadLeast
theorem T_ke_BadLeast_BadRow (T : Txt K mg cs) : PySem.W.kitOne K (.ref cs.BadLeast) (.ref cs.BadRow) = some false := kitOne_of T.ec_BadRow T.et_BadRow T.ek_BadLeast_BadRow T.ek_BadLeast_BadLeast
theorem T_ke_BadLeast_BadLeast (T : Txt K mg cs) : PySem.W.kitOne K (.ref cs.BadLeast) (.ref cs.BadLeast) = some true := kitOne_of T.ec_BadLeast T.et_BadLeast T.ek_BadLeast_BadLeast T.ek_BadLeast_BadLeast
theorem T_ke_BadLeast_BadTotal (T : Txt K mg cs) : PySem.W.kitOne K (.ref cs.BadLeast) (.ref cs.BadTotal) = some false := kitOne_of T.ec_BadTotal T.et_BadTotal T.ek_BadLeast_BadTotal T.ek_BadLeast_BadLeast
theorem T_ke_BadLeast_BadMany (T : Txt K mg cs) : PySem.W.kitOne K (.ref cs.BadLeast) (.ref cs.BadMany) = some false := kitOne_of T.ec_BadMany T.et_BadMany T.ek_BadLeast_BadMany T.ek_BadLeast_BadLeast
theorem T_exc_BadTotal (T : Txt K mg cs) : ExcC K cs.BadTotal := ⟨T.eg_BadTotal, T.ek_BadTotal, T.eb_BadTotal, T.ed_BadTotal, T.ea_BadTotal, T.xn, T.xt, T.em_BadTotal⟩
theorem T_exm_BadTotal (T : Txt K mg cs) : PySem.W.exmOne K (.ref cs.BadTotal) (.ref cs.StretchError) = some true := PySem.W.exm_ref T.se_b T.se_d T.se_t T.es_BadTotal
theorem T_kv_BadTotal (T : Txt K mg cs) : PySem.W.kitOne K (.ref cs.BadTotal) (.type "ValueError") = some true := kitType (by decide +kernel) T.ev_BadTotal
theorem T_ke_BadTotal_BadRow (T : Txt K mg cs) : PySem.W.kitOne K (.ref cs.BadTotal) (.ref cs.BadRow) = some false := kitOne_of T.ec_BadRow T.et_BadRow T.ek_BadTotal_BadRow T.ek_BadTotal_BadTotal
theorem T_ke_BadTotal_BadLeast (T : Txt K mg cs) : PySem.W.kitOne K (.ref cs.BadTotal) (.ref cs.BadLeast) = some false := kitOne_of T.ec_BadLeast T.et_BadLeast T.ek_BadTotal_BadLeast T.ek_BadTotal_BadTotal
theorem T_ke_BadTotal_BadTotal (T : Txt K mg cs) : PySem.W.kitOne K (.ref cs.BadTotal) (.ref cs.BadTotal) = some true := kitOne_of T.ec_BadTotal T.et_BadTotal T.ek_BadTotal_BadTotal T.ek_BadTotal_BadTotal
theorem T_ke_BadTotal_BadMany (T : Txt K mg cs) : PySem.W.kitOne K (.ref cs.BadTotal) (.ref cs.BadMany) = some false := kitOne_of T.ec_BadMany T.et_BadMany T.ek_BadTotal_BadMany T.ek_BadTotal_BadTotal
theorem T_exc_BadMany (T : Txt K mg cs) : ExcC K cs.BadMany := ⟨T.eg_BadMany, T.ek_BadMany, T.eb_BadMany, T.ed_BadMany, T.ea_BadMany, T.xn, T.xt, T.em_BadMany⟩
theorem T_exm_BadMany (T : Txt K mg cs) : PySem.W.exmOne K (.ref cs.BadMany) (.ref cs.StretchError) = some true := PySem.W.exm_ref T.se_b T.se_d T.se_t T.es_BadMany
theorem T_kv_BadMany (T : Txt K mg cs) : PySem.W.kitOne K (.ref cs.BadMany) (.type "ValueError") = some true := kitType (by decide +kernel) T.ev_BadMany
theorem T_ke_BadMany_BadRow (T : Txt K mg cs) : PySem.W.kitOne K (.ref cs.BadMany) (.ref cs.BadRow) = some false := kitOne_of T.ec_BadRow T.et_BadRow T.ek_BadMany_BadRow T.ek_BadMany_BadMany
theorem T_ke_BadMany_BadLeast (T : Txt K mg cs) : PySem.W.kitOne K (.ref cs.BadMany) (.ref cs.BadLeast) = some false := kitOne_of T.ec_BadLeast T.et_BadLeast T.ek_BadMany_BadLeast T.ek_BadMany_BadMany
theorem T_ke_BadMany_BadTotal (T : Txt K mg cs) : PySem.W.kitOne K (.ref cs.BadMany) (.ref cs.BadTotal) = some false := kitOne_of T.ec_BadTotal T.et_BadTotal T.ek_BadMany_BadTotal T.ek_BadMany_BadMany
theorem T_ke_BadMany_BadMany (T : Txt K mg cs) : PySem.W.kitOne K (.ref cs.BadMany) (.ref cs.BadMany) = some true := kitOne_of T.ec_BadMany T.et_BadMany T.ek_BadMany_BadMany T.ek_BadMany_BadMany
theorem T_excs (T : Txt K mg cs) : ∀ D ∈ badsOf cs, ExcC K D := fun D hD => by
  simp only [badsOf, List.mem_cons, List.not_mem_nil, or_false] at hD
  rcases hD with rfl | rfl | rfl | rfl
  · exact T_exc_BadRow T
  · exact T_exc_BadLeast T
  · exact T_exc_BadTotal T
  · exact T_exc_BadMany T
theorem T_errs (T : Txt K mg cs) : Errs K cs := ⟨T_exm_BadRow T, T_exm_BadLeast T, T_exm_BadTotal T, T_exm_BadMany T, T_kv_BadRow T, T_kv_BadLeast T, T_kv_BadTotal T, T_kv_BadMany T, T_ke_BadRow_BadRow T, T_ke_BadRow_BadLeast T, T_ke_BadRow_BadTotal T, T_ke_BadRow_BadMany T, T_ke_BadLeast_BadRow T, T_ke_BadLeast_BadLeast T, T_ke_BadLeast_BadTotal T, T_ke_BadLeast_BadMany T, T_ke_BadTotal_BadRow T, T_ke_BadTotal_BadLeast T, T_ke_BadTotal_BadTotal T, T_ke_BadTotal_BadMany T, T_ke_BadMany_BadRow T, T_ke_BadMany_BadLeast T, T_ke_BadMany_BadTotal T, T_ke_BadMany_BadMany T⟩
theorem ok_Around_init (T : Txt K mg cs) : FnOk P w K mg base CX0 1 T.f_Around_init T.d_Around_init (["self", "first", "many", "lows", "tops"] : List Str) (sp_Around_init K cs) := by
  refine T.F_Around_init.ok sc_Around_init (fun vs H Q E h => len_Around_init h) (fun cdv A outer s H vs Q E hr h => ⟨t_Around_init K cs, ?_, pure_Around_init (T_okAround T) h⟩)
  have hu := hu_of hr
  exact (pss_cons (ps_fld (pv 0) (pv 1) rfl)
  (pss_cons (ps_fld (pv 0) (pv 2) rfl)
  (pss_cons (ps_fld (pv 0) (pe_callTy c_list (by rfl) T.n_list (by decide +kernel) (pa_cons (pv 3) pa_nil)) rfl)
  (pss_one (ps_fld (pv 0) (pe_callTy c_list (by rfl) T.n_list (by decide +kernel) (pa_cons (pv 4) pa_nil)) rfl)))))
theorem ok_is_number_k08 (T : Txt K mg cs) : FnOk P w K mg base CX0 1 T.f_is_number_k08 T.d_is_number_k08 (["thing"] : List Str) (sp_is_number_k08 K cs) := by
  refine T.F_is_number_k08.ok sc_is_number_k08 (fun vs H Q E h => len_is_number_k08 h) (fun cdv A outer s H vs Q E hr h => ⟨t_is_number_k08 K cs, ?_, pure_is_number_k08  h⟩)
  have hu := hu_of hr
  exact (pss_one (ps_ret (pe_and (pe_callB call_isi (by rfl) T.n_isinstance (by decide +kernel) (pa_cons (pv 0) (pa_cons (pe_bltn (by rfl) T.n_int (by decide +kernel) rfl) pa_nil))) (pe_one (pe_not (pe_callB call_isi (by rfl) T.n_isinstance (by decide +kernel) (pa_cons (pv 0) (pa_cons (pe_bltn (by rfl) T.n_bool (by decide +kernel) rfl) pa_nil))))))))
theorem ok_asked_least_k08 (T : Txt K mg cs) : FnOk P w K mg base (L2.CX P w) 2 T.f_asked_least_k08 T.d_asked_least_k08 (["row", "least"] : List Str) (sp_asked_least_k08 K cs) := by
  refine T.F_asked_least_k08.okX sc_asked_least_k08 (fun vs H Q E h => len_asked_least_k08 h) (fun cdv A outer s H vs Q E hr h => ⟨t_asked_least_k08 K cs E, ?_, pure_asked_least_k08  h⟩)
  have hu := hu_of hr
  exact (pss_one (ps_if (PW.pt (pw_or (pt_not (pt_val (pe_call (ok_is_number_k08 T) (hr.mono (by decide)) rfl T.g_is_number_k08 T.F_is_number_k08.kp T.b_is_number_k08 .nil pass0 (pa_cons (pv 1) pa_nil)))) (pw_or1 (pt_not (pt_chain op_leI op_leI pe_int (pv 1) (pe_callB c_len (by rfl) T.n_len (by decide +kernel) (pa_cons (pv 0) pa_nil))))))) (pss_one (ps_raise rfl (takes_of rfl rfl rfl rfl) (pmk_own PySem.F.excBase_ValueError T.ex_BadLeast T.g_BadLeast T.kp_BadLeast (raises_own T.eb_BadLeast T.et_BadLeast) (by rfl)))) pss_nil))
theorem ok_asked_row_k08 (T : Txt K mg cs) : FnOk P w K mg base (L2.CX P w) 2 T.f_asked_row_k08 T.d_asked_row_k08 (["row"] : List Str) (sp_asked_row_k08 K cs) := by
  refine T.F_asked_row_k08.okX sc_asked_row_k08 (fun vs H Q E h => len_asked_row_k08 h) (fun cdv A outer s H vs Q E hr h => ⟨t_asked_row_k08 K cs E, ?_, pure_asked_row_k08  h⟩)
  have hu := hu_of hr
  exact (pss_one (ps_if (PW.pt (pw_or (pt_not (pt_val (pe_callB call_isi (by rfl) T.n_isinstance (by decide +kernel) (pa_cons (pv 0) (pa_cons (pe_bltn (by rfl) T.n_list (by decide +kernel) rfl) pa_nil))))) (pw_or1 (pt_not (pt_val (pe_callB (cr_all rfl) (by rfl) T.n_all (by decide +kernel) (pa_cons (pe_lc (own := [("one", 1)]) rfl sc_asked_row_k08.nd (pi_list (pv 0)) (blkOk_by (own := [("one", 1)]) (N := N_asked_row_k08) (sc := defScope s_asked_row_k08) (by decide +kernel)) (fun _ _ _ _ _ => (pg_name (i := 1) sc_asked_row_k08.nd rfl (Or.inl rfl))) (fun _ _ _ _ _ => pts_nil) (fun _ _ _ _ _ => (pe_and (pe_call (ok_is_number_k08 T) (hr.mono (by decide)) rfl T.g_is_number_k08 T.F_is_number_k08.kp T.b_is_number_k08 .nil pass0 (pa_cons (pv 1) pa_nil)) (pe_one (pe_chain op_leI op_leI (pe_un un_negI (pe_glob rfl T.g_FARTHEST ⟨_, rfl⟩)) (pv 1) (pe_glob rfl T.g_FARTHEST ⟨_, rfl⟩)))))) pa_nil))))))) (pss_one (ps_raise rfl (takes_of rfl rfl rfl rfl) (pmk_own PySem.F.excBase_ValueError T.ex_BadRow T.g_BadRow T.kp_BadRow (raises_own T.eb_BadRow T.et_BadRow) (by rfl)))) pss_nil))
theorem ok_summed (T : Txt K mg cs) : FnOk P w K mg base CX0 1 T.f_summed T.d_summed (["row"] : List Str) (sp_summed K cs) := by
  refine T.F_summed.ok sc_summed (fun vs H Q E h => len_summed h) (fun cdv A outer s H vs Q E hr h => ⟨t_summed K cs, ?_, pure_summed  h⟩)
  have hu := hu_of hr
  exact (pss_cons (ps_set (i := 1) sc_summed.nd rfl (Or.inl rfl) (pe_lst (pa_cons pe_int pa_nil)))
  (pss_cons (ps_for PassesOwn.never rfl (pi_list (pv 0)) (pg_name (i := 2) sc_summed.nd rfl (Or.inl rfl)) (pss_one (ps_expr (pe_bm PySem.F.plainAttrs_list PySem.F.slot_list_append PySem.F.type_list_append mt_append (pv 1) (pa_cons (pe_op op_addI (pe_ix ix_list (pv 1) (pe_un un_negI pe_int) (fun _ _ => rfl)) (pv 2)) pa_nil)))))
  (pss_one (ps_ret (pv 1)))))
theorem ok_best_of (T : Txt K mg cs) : FnOk P w K mg base CX0 2 T.f_best_of T.d_best_of (["row", "least"] : List Str) (sp_best_of K cs) := by
  refine T.F_best_of.ok sc_best_of (fun vs H Q E h => len_best_of h) (fun cdv A outer s H vs Q E hr h => ⟨t_best_of K cs, ?_, pure_best_of  h⟩)
  have hu := hu_of hr
  exact (pss_cons (ps_set (i := 2) sc_best_of.nd rfl (Or.inl rfl) (pe_call (ok_summed T) (hr.mono (by decide)) rfl T.g_summed T.F_summed.kp T.b_summed .nil pass0 (pa_cons (pv 0) pa_nil)))
  (pss_cons (ps_set (i := 3) sc_best_of.nd rfl (Or.inl rfl) (pe_lst pa_nil))
  (pss_cons (ps_set (i := 4) sc_best_of.nd rfl (Or.inl rfl) pe_int)
  (pss_cons (ps_set (i := 5) sc_best_of.nd rfl (Or.inl rfl) pe_int)
  (pss_cons (ps_set (i := 6) sc_best_of.nd rfl (Or.inl rfl) (pv 1))
  (pss_cons (ps_for PassesOwn.never rfl (pi_range1 (by rfl) T.n_range (pa_cons (pe_op op_addI (pe_op op_subI (pe_callB c_len (by rfl) T.n_len (by decide +kernel) (pa_cons (pv 0) pa_nil)) (pv 1)) pe_int) pa_nil)) (pg_name (i := 7) sc_best_of.nd rfl (Or.inl rfl)) (pss_cons (ps_if (pt_cmpR op_ltI (pe_ix ix_list (pv 2) (pv 7) (fun _ _ => rfl)) (pe_ix ix_list (pv 2) (pv 4) (fun _ _ => rfl)) (nomark _)) (pss_one (ps_set (i := 4) sc_best_of.nd rfl (Or.inl rfl) (pv 7))) pss_nil)
  (pss_cons (ps_expr (pe_bm PySem.F.plainAttrs_list PySem.F.slot_list_append PySem.F.type_list_append mt_append (pv 3) (pa_cons (pe_ix ix_list (pv 2) (pv 4) (fun _ _ => rfl)) pa_nil)))
  (pss_one (ps_if (pt_cmpR op_gtI (pe_op op_subI (pe_ix ix_list (pv 2) (pe_op op_addI (pv 7) (pv 1)) (fun _ _ => rfl)) (pe_ix ix_list (pv 2) (pv 4) (fun _ _ => rfl))) (pe_op op_subI (pe_ix ix_list (pv 2) (pe_op op_addI (pv 5) (pv 6)) (fun _ _ => rfl)) (pe_ix ix_list (pv 2) (pv 5) (fun _ _ => rfl))) (nomark _)) (pss_cons (ps_set (i := 5) sc_best_of.nd rfl (Or.inl rfl) (pv 4))
  (pss_one (ps_set (i := 6) sc_best_of.nd rfl (Or.inl rfl) (pe_op op_subI (pe_op op_addI (pv 7) (pv 1)) (pv 4))))) pss_nil)))))
  (pss_one (ps_ret (pe_tup (pa_cons (pv 5) (pa_cons (pv 6) (pa_cons (pv 3) pa_nil))))))))))))
theorem ok_around_k08 (T : Txt K mg cs) : FnOk P w K mg base (L2.CX P w) 3 T.f_around_k08 T.d_around_k08 (["row"] : List Str) (sp_around_k08 K cs) := by
  refine T.F_around_k08.okX sc_around_k08 (fun vs H Q E h => len_around_k08 h) (fun cdv A outer s H vs Q E hr h => ⟨t_around_k08 K cs E, ?_, pure_around_k08  h⟩)
  have hu := hu_of hr
  exact (pss_cons (ps_expr (pe_callS (ok_asked_row_k08 T) (hr.mono (by decide)) rfl T.g_asked_row_k08 T.F_asked_row_k08.kp T.b_asked_row_k08 (fun σ => passAt (takes_of rfl rfl rfl rfl) σ) (pa_cons (pv 0) pa_nil)))
  (pss_cons (ps_expr (pe_callS (ok_asked_least_k08 T) (hr.mono (by decide)) rfl T.g_asked_least_k08 T.F_asked_least_k08.kp T.b_asked_least_k08 (fun σ => passAt (takes_of rfl rfl rfl rfl) σ) (pa_cons (pv 0) (pa_cons pe_int pa_nil))))
  (pss_cons (ps_asg (pe_call (ok_best_of T) (hr.mono (by decide)) rfl T.g_best_of T.F_best_of.kp T.b_best_of .nil pass0 (pa_cons (pv 0) (pa_cons pe_int pa_nil))) (pg_tup (by rfl) (pgs_cons (pg_name (i := 3) sc_around_k08.nd rfl (Or.inl rfl)) (pgs_cons (pg_name (i := 4) sc_around_k08.nd rfl (Or.inl rfl)) (pgs_cons (pg_name (i := 5) sc_around_k08.nd rfl (Or.inl rfl)) pgs_nil)))))
  (pss_cons (ps_set (i := 1) sc_around_k08.nd rfl (Or.inl rfl) (pe_callB (cr_sum rfl) (by rfl) T.n_sum (by decide +kernel) (pa_cons (pe_slice sl_list (pv 0) (po_some (pv 3)) (po_some (pe_op op_addI (pv 3) (pv 4)))) pa_nil)))
  (pss_cons (ps_set (i := 2) sc_around_k08.nd rfl (Or.inl rfl) (pe_lst pa_nil))
  (pss_cons (ps_if (pt_cmpR op_gtI (pe_callB c_len (by rfl) T.n_len (by decide +kernel) (pa_cons (pv 0) pa_nil)) pe_int (nomark _)) (pss_cons (ps_setLc (i := 6) (own := [("one", 9)]) rfl sc_around_k08.nd rfl rfl (sw_true rfl rfl rfl (by decide +kernel)) (pi_list (pe_slice sl_list (pv 0) (po_some pe_int) (po_some (pe_un un_negI pe_int)))) (blkOk_by (own := [("one", 9)]) (N := N_around_k08) (sc := defScope s_around_k08) (by decide +kernel)) (fun _ _ _ _ _ => (pg_name (i := 9) sc_around_k08.nd rfl (Or.inl rfl))) (fun _ _ _ _ _ => pts_nil) (fun _ _ _ _ _ => (pe_un un_negI (pv 9))))
  (pss_cons (ps_asg (pe_call (ok_best_of T) (hr.mono (by decide)) rfl T.g_best_of T.F_best_of.kp T.b_best_of .nil pass0 (pa_cons (pv 6) (pa_cons pe_int pa_nil))) (pg_tup (by rfl) (pgs_cons (pg_name (i := 7) sc_around_k08.nd rfl (Or.inl rfl)) (pgs_cons (pg_name (i := 8) sc_around_k08.nd rfl (Or.inl rfl)) (pgs_cons (pg_name (i := 2) sc_around_k08.nd rfl (Or.inl rfl)) pgs_nil)))))
  (pss_one (ps_if (pt_cmpR op_gtI (pe_op op_addI (pe_callB (cr_sum rfl) (by rfl) T.n_sum (by decide +kernel) (pa_cons (pv 0) pa_nil)) (pe_callB (cr_sum rfl) (by rfl) T.n_sum (by decide +kernel) (pa_cons (pe_slice sl_list (pv 6) (po_some (pv 7)) (po_some (pe_op op_addI (pv 7) (pv 8)))) pa_nil))) (pv 1) (nomark _)) (pss_cons (ps_set (i := 3) sc_around_k08.nd rfl (Or.inl rfl) (pe_op op_addI (pe_op op_addI (pv 7) pe_int) (pv 8)))
  (pss_one (ps_set (i := 4) sc_around_k08.nd rfl (Or.inl rfl) (pe_op op_subI (pe_callB c_len (by rfl) T.n_len (by decide +kernel) (pa_cons (pv 0) pa_nil)) (pv 8))))) pss_nil)))) pss_nil)
  (pss_one (ps_ret (pe_make T.mk_Around (ok_Around_init T) (hr.mono (by decide)) rfl T.g_Around T.b_Around_init .nil pass0 (pa_cons (pv 3) (pa_cons (pv 4) (pa_cons (pv 5) (pa_cons (pv 2) pa_nil)))))))))))))
theorem ok_Best_init (T : Txt K mg cs) : FnOk P w K mg base CX0 1 T.f_Best_init T.d_Best_init (["self", "first", "many", "lows"] : List Str) (sp_Best_init K cs) := by
  refine T.F_Best_init.ok sc_Best_init (fun vs H Q E h => len_Best_init h) (fun cdv A outer s H vs Q E hr h => ⟨t_Best_init K cs, ?_, pure_Best_init (T_okBest T) h⟩)
  have hu := hu_of hr
  exact (pss_cons (ps_fld (pv 0) (pv 1) rfl)
  (pss_cons (ps_fld (pv 0) (pv 2) rfl)
  (pss_one (ps_fld (pv 0) (pe_callTy c_list (by rfl) T.n_list (by decide +kernel) (pa_cons (pv 3) pa_nil)) rfl))))
theorem ok_best_k08 (T : Txt K mg cs) : FnOk P w K mg base (L2.CX P w) 3 T.f_best_k08 T.d_best_k08 (["row", "least"] : List Str) (sp_best_k08 K cs) := by
  refine T.F_best_k08.okX sc_best_k08 (fun vs H Q E h => len_best_k08 h) (fun cdv A outer s H vs Q E hr h => ⟨t_best_k08 K cs E, ?_, pure_best_k08  h⟩)
  have hu := hu_of hr
  exact (pss_cons (ps_expr (pe_callS (ok_asked_row_k08 T) (hr.mono (by decide)) rfl T.g_asked_row_k08 T.F_asked_row_k08.kp T.b_asked_row_k08 (fun σ => passAt (takes_of rfl rfl rfl rfl) σ) (pa_cons (pv 0) pa_nil)))
  (pss_cons (ps_expr (pe_callS (ok_asked_least_k08 T) (hr.mono (by decide)) rfl T.g_asked_least_k08 T.F_asked_least_k08.kp T.b_asked_least_k08 (fun σ => passAt (takes_of rfl rfl rfl rfl) σ) (pa_cons (pv 0) (pa_cons (pv 1) pa_nil))))
  (pss_cons (ps_asg (pe_call (ok_best_of T) (hr.mono (by decide)) rfl T.g_best_of T.F_best_of.kp T.b_best_of .nil pass0 (pa_cons (pv 0) (pa_cons (pv 1) pa_nil))) (pg_tup (by rfl) (pgs_cons (pg_name (i := 2) sc_best_k08.nd rfl (Or.inl rfl)) (pgs_cons (pg_name (i := 3) sc_best_k08.nd rfl (Or.inl rfl)) (pgs_cons (pg_name (i := 4) sc_best_k08.nd rfl (Or.inl rfl)) pgs_nil)))))
  (pss_one (ps_ret (pe_make T.mk_Best (ok_Best_init T) (hr.mono (by decide)) rfl T.g_Best T.b_Best_init .nil pass0 (pa_cons (pv 2) (pa_cons (pv 3) (pa_cons (pv 4) pa_nil)))))))))
theorem ok_Exact_init (T : Txt K mg cs) : FnOk P w K mg base CX0 1 T.f_Exact_init T.d_Exact_init (["self", "first", "many"] : List Str) (sp_Exact_init K cs) := by
  refine T.F_Exact_init.ok sc_Exact_init (fun vs H Q E h => len_Exact_init h) (fun cdv A outer s H vs Q E hr h => ⟨t_Exact_init K cs, ?_, pure_Exact_init (T_okExact T) h⟩)
  have hu := hu_of hr
  exact (pss_cons (ps_fld (pv 0) (pv 1) rfl)
  (pss_one (ps_fld (pv 0) (pv 2) rfl)))
theorem ok_Never_init (T : Txt K mg cs) : FnOk P w K mg base CX0 1 T.f_Never_init T.d_Never_init (["self", "table"] : List Str) (sp_Never_init K cs) := by
  refine T.F_Never_init.ok sc_Never_init (fun vs H Q E h => len_Never_init h) (fun cdv A outer s H vs Q E hr h => ⟨t_Never_init K cs, ?_, pure_Never_init (T_okNever T) h⟩)
  have hu := hu_of hr
  exact (pss_one (ps_fld (pv 0) (pe_callTy c_list (by rfl) T.n_list (by decide +kernel) (pa_cons (pv 1) pa_nil)) rfl))
theorem ok_asked_total_k08 (T : Txt K mg cs) : FnOk P w K mg base (L2.CX P w) 2 T.f_asked_total_k08 T.d_asked_total_k08 (["total"] : List Str) (sp_asked_total_k08 K cs) := by
  refine T.F_asked_total_k08.okX sc_asked_total_k08 (fun vs H Q E h => len_asked_total_k08 h) (fun cdv A outer s H vs Q E hr h => ⟨t_asked_total_k08 K cs E, ?_, pure_asked_total_k08  h⟩)
  have hu := hu_of hr
  exact (pss_one (ps_if (pt_not (pt_val (pe_call (ok_is_number_k08 T) (hr.mono (by decide)) rfl T.g_is_number_k08 T.F_is_number_k08.kp T.b_is_number_k08 .nil pass0 (pa_cons (pv 0) pa_nil)))) (pss_one (ps_raise rfl (takes_of rfl rfl rfl rfl) (pmk_own PySem.F.excBase_ValueError T.ex_BadTotal T.g_BadTotal T.kp_BadTotal (raises_own T.eb_BadTotal T.et_BadTotal) (by rfl)))) pss_nil))
theorem ok_exact_k08 (T : Txt K mg cs) : FnOk P w K mg base (L2.CX P w) 3 T.f_exact_k08 T.d_exact_k08 (["row", "total"] : List Str) (sp_exact_k08 K cs) := by
  refine T.F_exact_k08.okX sc_exact_k08 (fun vs H Q E h => len_exact_k08 h) (fun cdv A outer s H vs Q E hr h => ⟨t_exact_k08 K cs E, ?_, pure_exact_k08  h⟩)
  have hu := hu_of hr
  exact (pss_cons (ps_expr (pe_callS (ok_asked_row_k08 T) (hr.mono (by decide)) rfl T.g_asked_row_k08 T.F_asked_row_k08.kp T.b_asked_row_k08 (fun σ => passAt (takes_of rfl rfl rfl rfl) σ) (pa_cons (pv 0) pa_nil)))
  (pss_cons (ps_expr (pe_callS (ok_asked_total_k08 T) (hr.mono (by decide)) rfl T.g_asked_total_k08 T.F_asked_total_k08.kp T.b_asked_total_k08 (fun σ => passAt (takes_of rfl rfl rfl rfl) σ) (pa_cons (pv 1) pa_nil)))
  (pss_cons (ps_set (i := 2) sc_exact_k08.nd rfl (Or.inr rfl) pe_dnewK)
  (pss_cons (ps_set (i := 3) sc_exact_k08.nd rfl (Or.inr rfl) pe_dnewK)
  (pss_cons (ps_for (passes_of rfl) rfl (pi_enum (by rfl) T.n_enumerate (pa_cons (pe_call (ok_summed T) (hr.mono (by decide)) rfl T.g_summed T.F_summed.kp T.b_summed .nil pass0 (pa_cons (pv 0) pa_nil)) pa_nil)) (pg_tup (by rfl) (pgs_cons (pg_name (i := 4) sc_exact_k08.nd rfl (Or.inl rfl)) (pgs_cons (pg_name (i := 5) sc_exact_k08.nd rfl (Or.inl rfl)) pgs_nil))) (pss_cons (ps_if (pt_cmp (pc_din hu (pe_op op_subI (pv 5) (pv 1)) (pv 2))) (pss_one (ps_ret (pe_make T.mk_Exact (ok_Exact_init T) (hr.mono (by decide)) rfl T.g_Exact T.b_Exact_init .nil pass0 (pa_cons (pe_dget hu (pv 2) (pe_op op_subI (pv 5) (pv 1)) (fun _ _ => rfl)) (pa_cons (pe_op op_subI (pv 4) (pe_dget hu (pv 2) (pe_op op_subI (pv 5) (pv 1)) (fun _ _ => rfl))) pa_nil))))) pss_nil)
  (pss_cons (ps_if (pt_cmp (pc_dnotin hu (pv 5) (pv 2))) (pss_one (ps_dput hu (pv 2) (pv 5) (pv 4) rfl)) pss_nil)
  (pss_one (ps_dput hu (pv 3) (pv 5) (pv 4) rfl)))))
  (pss_one (ps_ret (pe_make T.mk_Never (ok_Never_init T) (hr.mono (by decide)) rfl T.g_Never T.b_Never_init .nil pass0 (pa_cons (pe_lc (own := [("number", 5)]) rfl sc_exact_k08.nd (pi_list (pe_callB (c_sortedD rfl) (by rfl) T.n_sorted (by decide +kernel) (pa_cons (pv 2) pa_nil))) (blkOk_by (own := [("number", 5)]) (N := N_exact_k08) (sc := defScope s_exact_k08) (by decide +kernel)) (fun _ _ _ _ _ => (pg_name (i := 5) sc_exact_k08.nd rfl (Or.inl rfl))) (fun _ _ _ _ _ => pts_nil) (fun _ _ _ _ _ => (pe_tup (pa_cons (pv 5) (pa_cons (pe_dget hu (pv 2) (pv 5) (fun _ _ => rfl)) (pa_cons (pe_dget hu (pv 3) (pv 5) (fun _ _ => rfl)) pa_nil)))))) pa_nil)))))))))
theorem ok_how_many_k08 (T : Txt K mg cs) : FnOk P w K mg base (L2.CX P w) 3 T.f_how_many_k08 T.d_how_many_k08 (["row", "total"] : List Str) (sp_how_many_k08 K cs) := by
  refine T.F_how_many_k08.okX sc_how_many_k08 (fun vs H Q E h => len_how_many_k08 h) (fun cdv A outer s H vs Q E hr h => ⟨t_how_many_k08 K cs E, ?_, pure_how_many_k08  h⟩)
  have hu := hu_of hr
  exact (pss_cons (ps_expr (pe_callS (ok_asked_row_k08 T) (hr.mono (by decide)) rfl T.g_asked_row_k08 T.F_asked_row_k08.kp T.b_asked_row_k08 (fun σ => passAt (takes_of rfl rfl rfl rfl) σ) (pa_cons (pv 0) pa_nil)))
  (pss_cons (ps_expr (pe_callS (ok_asked_total_k08 T) (hr.mono (by decide)) rfl T.g_asked_total_k08 T.F_asked_total_k08.kp T.b_asked_total_k08 (fun σ => passAt (takes_of rfl rfl rfl rfl) σ) (pa_cons (pv 1) pa_nil)))
  (pss_cons (ps_set (i := 2) sc_how_many_k08.nd rfl (Or.inl rfl) pe_dnewK)
  (pss_cons (ps_set (i := 3) sc_how_many_k08.nd rfl (Or.inl rfl) pe_int)
  (pss_cons (ps_for (passes_of rfl) rfl (pi_list (pe_call (ok_summed T) (hr.mono (by decide)) rfl T.g_summed T.F_summed.kp T.b_summed .nil pass0 (pa_cons (pv 0) pa_nil))) (pg_name (i := 4) sc_how_many_k08.nd rfl (Or.inl rfl)) (pss_cons (ps_set (i := 3) sc_how_many_k08.nd rfl (Or.inl rfl) (pe_op op_addI (pv 3) (pe_dget2 hu (pv 2) (pe_op op_subI (pv 4) (pv 1)) pe_int ⟨by rfl, by rfl, by rfl, by rfl⟩)))
  (pss_one (ps_dput hu (pv 2) (pv 4) (pe_op op_addI (pe_dget2 hu (pv 2) (pv 4) pe_int ⟨by rfl, by rfl, by rfl, by rfl⟩) pe_int) rfl))))
  (pss_one (ps_ret (pv 3))))))))
theorem ok_Several_init (T : Txt K mg cs) : FnOk P w K mg base CX0 1 T.f_Several_init T.d_Several_init (["self", "stretches", "price", "outs", "ins"] : List Str) (sp_Several_init K cs) := by
  refine T.F_Several_init.ok sc_Several_init (fun vs H Q E h => len_Several_init h) (fun cdv A outer s H vs Q E hr h => ⟨t_Several_init K cs, ?_, pure_Several_init (T_okSeveral T) h⟩)
  have hu := hu_of hr
  exact (pss_cons (ps_fld (pv 0) (pe_callTy c_list (by rfl) T.n_list (by decide +kernel) (pa_cons (pv 1) pa_nil)) rfl)
  (pss_cons (ps_fld (pv 0) (pv 2) rfl)
  (pss_cons (ps_fld (pv 0) (pe_callTy c_list (by rfl) T.n_list (by decide +kernel) (pa_cons (pv 3) pa_nil)) rfl)
  (pss_one (ps_fld (pv 0) (pe_callTy c_list (by rfl) T.n_list (by decide +kernel) (pa_cons (pv 4) pa_nil)) rfl)))))
theorem ok_added (T : Txt K mg cs) : FnOk P w K mg base CX0 1 T.f_added T.d_added (["row", "best"] : List Str) (sp_added K cs) := by
  refine T.F_added.ok sc_added (fun vs H Q E h => len_added h) (fun cdv A outer s H vs Q E hr h => ⟨t_added K cs, ?_, pure_added  h⟩)
  have hu := hu_of hr
  exact (pss_cons (ps_set (i := 2) sc_added.nd rfl (Or.inl rfl) (pe_lst (pa_cons (pe_ix ix_list (pv 1) pe_int (fun _ _ => rfl)) pa_nil)))
  (pss_cons (ps_set (i := 3) sc_added.nd rfl (Or.inl rfl) (pe_lst (pa_cons (pe_un un_negI pe_int) pa_nil)))
  (pss_cons (ps_set (i := 4) sc_added.nd rfl (Or.inl rfl) (pe_ix ix_list (pv 1) pe_int (fun _ _ => rfl)))
  (pss_cons (ps_set (i := 5) sc_added.nd rfl (Or.inl rfl) pe_int)
  (pss_cons (ps_for PassesOwn.never rfl (pi_enum (by rfl) T.n_enumerate (pa_cons (pv 0) pa_nil)) (pg_tup (by rfl) (pgs_cons (pg_name (i := 6) sc_added.nd rfl (Or.inl rfl)) (pgs_cons (pg_name (i := 7) sc_added.nd rfl (Or.inl rfl)) pgs_nil))) (pss_cons (ps_if (PW.pt (pw_or (pt_cmpR op_eq (pv 6) pe_int (nomark _)) (pw_or1 (pt_cmpR op_gtI (pe_ix ix_list (pv 1) (pv 6) (fun _ _ => rfl)) (pv 4) (nomark _))))) (pss_cons (ps_set (i := 4) sc_added.nd rfl (Or.inl rfl) (pe_ix ix_list (pv 1) (pv 6) (fun _ _ => rfl)))
  (pss_one (ps_set (i := 5) sc_added.nd rfl (Or.inl rfl) (pv 6)))) pss_nil)
  (pss_cons (ps_set (i := 4) sc_added.nd rfl (Or.inl rfl) (pe_op op_addI (pv 4) (pv 7)))
  (pss_one (ps_if (pt_cmpR op_gtI (pv 4) (pe_ix ix_list (pv 2) (pe_un un_negI pe_int) (fun _ _ => rfl)) (nomark _)) (pss_cons (ps_expr (pe_bm PySem.F.plainAttrs_list PySem.F.slot_list_append PySem.F.type_list_append mt_append (pv 2) (pa_cons (pv 4) pa_nil)))
  (pss_one (ps_expr (pe_bm PySem.F.plainAttrs_list PySem.F.slot_list_append PySem.F.type_list_append mt_append (pv 3) (pa_cons (pv 5) pa_nil))))) (pss_cons (ps_expr (pe_bm PySem.F.plainAttrs_list PySem.F.slot_list_append PySem.F.type_list_append mt_append (pv 2) (pa_cons (pe_ix ix_list (pv 2) (pe_un un_negI pe_int) (fun _ _ => rfl)) pa_nil)))
  (pss_one (ps_expr (pe_bm PySem.F.plainAttrs_list PySem.F.slot_list_append PySem.F.type_list_append mt_append (pv 3) (pa_cons (pe_un un_negI pe_int) pa_nil))))))))))
  (pss_one (ps_ret (pe_tup (pa_cons (pv 2) (pa_cons (pv 3) pa_nil))))))))))
theorem ok_asked_many_k08 (T : Txt K mg cs) : FnOk P w K mg base (L2.CX P w) 2 T.f_asked_many_k08 T.d_asked_many_k08 (["many"] : List Str) (sp_asked_many_k08 K cs) := by
  refine T.F_asked_many_k08.okX sc_asked_many_k08 (fun vs H Q E h => len_asked_many_k08 h) (fun cdv A outer s H vs Q E hr h => ⟨t_asked_many_k08 K cs E, ?_, pure_asked_many_k08  h⟩)
  have hu := hu_of hr
  exact (pss_one (ps_if (PW.pt (pw_or (pt_not (pt_val (pe_call (ok_is_number_k08 T) (hr.mono (by decide)) rfl T.g_is_number_k08 T.F_is_number_k08.kp T.b_is_number_k08 .nil pass0 (pa_cons (pv 0) pa_nil)))) (pw_or1 (pt_cmpR op_ltI (pv 0) pe_int (nomark _))))) (pss_one (ps_raise rfl (takes_of rfl rfl rfl rfl) (pmk_own PySem.F.excBase_ValueError T.ex_BadMany T.g_BadMany T.kp_BadMany (raises_own T.eb_BadMany T.et_BadMany) (by rfl)))) pss_nil))
theorem ok_bounds (T : Txt K mg cs) : FnOk P w K mg base CX0 1 T.f_bounds T.d_bounds (["row", "price"] : List Str) (sp_bounds K cs) := by
  refine T.F_bounds.ok sc_bounds (fun vs H Q E h => len_bounds h) (fun cdv A outer s H vs Q E hr h => ⟨t_bounds K cs, ?_, pure_bounds  h⟩)
  have hu := hu_of hr
  exact (pss_cons (ps_set (i := 2) sc_bounds.nd rfl (Or.inl rfl) (pe_lst (pa_cons pe_int pa_nil)))
  (pss_cons (ps_set (i := 3) sc_bounds.nd rfl (Or.inl rfl) (pe_lst pa_nil))
  (pss_cons (ps_for PassesOwn.never rfl (pi_list (pv 0)) (pg_name (i := 4) sc_bounds.nd rfl (Or.inl rfl)) (pss_cons (ps_expr (pe_bm PySem.F.plainAttrs_list PySem.F.slot_list_append PySem.F.type_list_append mt_append (pv 3) (pa_cons (pe_op op_addI (pe_op op_subI (pe_ix ix_list (pv 2) (pe_un un_negI pe_int) (fun _ _ => rfl)) (pv 1)) (pv 4)) pa_nil)))
  (pss_cons (ps_if (pt_cmpR op_gtI (pe_callB c_len (by rfl) T.n_len (by decide +kernel) (pa_cons (pv 3) pa_nil)) pe_int (nomark _)) (pss_one (ps_asg (pe_callB (c_max2 rfl) (by rfl) T.n_max (by decide +kernel) (pa_cons (pe_ix ix_list (pv 3) (pe_un un_negI pe_int) (fun _ _ => rfl)) (pa_cons (pe_op op_addI (pe_ix ix_list (pv 3) (pe_un un_negI pe_int) (fun _ _ => rfl)) (pv 4)) pa_nil))) (pg_sub (pv 3) (pe_un un_negI pe_int) set_list))) pss_nil)
  (pss_one (ps_expr (pe_bm PySem.F.plainAttrs_list PySem.F.slot_list_append PySem.F.type_list_append mt_append (pv 2) (pa_cons (pe_callB (c_max2 rfl) (by rfl) T.n_max (by decide +kernel) (pa_cons (pe_ix ix_list (pv 2) (pe_un un_negI pe_int) (fun _ _ => rfl)) (pa_cons (pe_ix ix_list (pv 3) (pe_un un_negI pe_int) (fun _ _ => rfl)) pa_nil))) pa_nil)))))))
  (pss_one (ps_ret (pe_tup (pa_cons (pv 2) (pa_cons (pv 3) pa_nil))))))))
theorem ok_stretches_of (T : Txt K mg cs) : FnOk P w K mg base CX0 1 T.f_stretches_of T.d_stretches_of (["levels", "length"] : List Str) (sp_stretches_of K cs) := by
  refine T.F_stretches_of.ok sc_stretches_of (fun vs H Q E h => len_stretches_of h) (fun cdv A outer s H vs Q E hr h => ⟨t_stretches_of K cs, ?_, pure_stretches_of  h⟩)
  have hu := hu_of hr
  exact (pss_cons (ps_set (i := 2) sc_stretches_of.nd rfl (Or.inl rfl) (pe_lst pa_nil))
  (pss_cons (ps_set (i := 3) sc_stretches_of.nd rfl (Or.inl rfl) (pv 1))
  (pss_cons (ps_set (i := 4) sc_stretches_of.nd rfl (Or.inl rfl) (pe_op op_subI (pe_callB c_len (by rfl) T.n_len (by decide +kernel) (pa_cons (pv 0) pa_nil)) pe_int))
  (pss_cons (ps_while PassesOwn.never (PW.pt (pw_and (pt_cmpR op_gtI (pv 4) pe_int (nomark _)) (pw_and1 (pt_cmpR op_gtI (pv 3) pe_int (nomark _))))) (pss_cons (ps_asg (pe_ix ix_list (pv 0) (pv 4) (fun _ _ => rfl)) (pg_tup (by rfl) (pgs_cons (pg_name (i := 5) sc_stretches_of.nd rfl (Or.inl rfl)) (pgs_cons (pg_name (i := 6) sc_stretches_of.nd rfl (Or.inl rfl)) pgs_nil))))
  (pss_one (ps_if (pt_cmpR op_geI (pe_ix ix_list (pv 6) (pv 3) (fun _ _ => rfl)) pe_int (nomark _)) (pss_cons (ps_expr (pe_bm PySem.F.plainAttrs_list PySem.F.slot_list_append PySem.F.type_list_append mt_append (pv 2) (pa_cons (pe_tup (pa_cons (pe_ix ix_list (pv 6) (pv 3) (fun _ _ => rfl)) (pa_cons (pe_op op_subI (pv 3) (pe_ix ix_list (pv 6) (pv 3) (fun _ _ => rfl))) pa_nil))) pa_nil)))
  (pss_cons (ps_set (i := 3) sc_stretches_of.nd rfl (Or.inl rfl) (pe_ix ix_list (pv 6) (pv 3) (fun _ _ => rfl)))
  (pss_one (ps_set (i := 4) sc_stretches_of.nd rfl (Or.inl rfl) (pe_op op_subI (pv 4) pe_int))))) (pss_one (ps_set (i := 3) sc_stretches_of.nd rfl (Or.inl rfl) (pe_op op_subI (pv 3) pe_int)))))))
  (pss_one (ps_ret (pe_revL (pv 2))))))))
theorem ok_several_k08 (T : Txt K mg cs) : FnOk P w K mg base (L2.CX P w) 3 T.f_several_k08 T.d_several_k08 (["row", "many"] : List Str) (sp_several_k08 K cs) := by
  refine T.F_several_k08.okX sc_several_k08 (fun vs H Q E h => len_several_k08 h) (fun cdv A outer s H vs Q E hr h => ⟨t_several_k08 K cs E, ?_, pure_several_k08  h⟩)
  have hu := hu_of hr
  exact (pss_cons (ps_expr (pe_callS (ok_asked_row_k08 T) (hr.mono (by decide)) rfl T.g_asked_row_k08 T.F_asked_row_k08.kp T.b_asked_row_k08 (fun σ => passAt (takes_of rfl rfl rfl rfl) σ) (pa_cons (pv 0) pa_nil)))
  (pss_cons (ps_expr (pe_callS (ok_asked_many_k08 T) (hr.mono (by decide)) rfl T.g_asked_many_k08 T.F_asked_many_k08.kp T.b_asked_many_k08 (fun σ => passAt (takes_of rfl rfl rfl rfl) σ) (pa_cons (pv 1) pa_nil)))
  (pss_cons (ps_set (i := 2) sc_several_k08.nd rfl (Or.inl rfl) (pe_lst (pa_cons (pe_tup (pa_cons (pe_lc (own := [("at", 7)]) rfl sc_several_k08.nd (pi_range1 (by rfl) T.n_range (pa_cons (pe_op op_addI (pe_callB c_len (by rfl) T.n_len (by decide +kernel) (pa_cons (pv 0) pa_nil)) pe_int) pa_nil)) (blkOk_by (own := [("at", 7)]) (N := N_several_k08) (sc := defScope s_several_k08) (by decide +kernel)) (fun _ _ _ _ _ => (pg_name (i := 7) sc_several_k08.nd rfl (Or.inl rfl))) (fun _ _ _ _ _ => pts_nil) (fun _ _ _ _ _ => pe_int)) (pa_cons (pe_lst pa_nil) pa_nil))) pa_nil)))
  (pss_cons (ps_for (passes_of rfl) rfl (pi_range1 (by rfl) T.n_range (pa_cons (pe_op op_addI (pe_callB (c_min2 rfl) (by rfl) T.n_min (by decide +kernel) (pa_cons (pv 1) (pa_cons (pe_callB c_len (by rfl) T.n_len (by decide +kernel) (pa_cons (pv 0) pa_nil)) pa_nil))) pe_int) pa_nil)) (pg_name (i := 3) sc_several_k08.nd rfl (Or.inl rfl)) (pss_one (ps_expr (pe_bm PySem.F.plainAttrs_list PySem.F.slot_list_append PySem.F.type_list_append mt_append (pv 2) (pa_cons (pe_call (ok_added T) (hr.mono (by decide)) rfl T.g_added T.F_added.kp T.b_added .nil pass0 (pa_cons (pv 0) (pa_cons (pe_ix ix_tup (pe_ix ix_list (pv 2) (pe_un un_negI pe_int) (fun _ _ => rfl)) pe_int (fun _ _ => rfl)) pa_nil))) pa_nil)))))
  (pss_cons (ps_set (i := 4) sc_several_k08.nd rfl (Or.inl rfl) (pe_op op_subI (pe_ix ix_list (pe_ix ix_tup (pe_ix ix_list (pv 2) (pe_un un_negI pe_int) (fun _ _ => rfl)) pe_int (fun _ _ => rfl)) (pe_un un_negI pe_int) (fun _ _ => rfl)) (pe_ix ix_list (pe_ix ix_tup (pe_ix ix_list (pv 2) (pe_un un_negI pe_int) (fun _ _ => rfl)) pe_int (fun _ _ => rfl)) (pe_un un_negI pe_int) (fun _ _ => rfl))))
  (pss_cons (ps_asg (pe_call (ok_bounds T) (hr.mono (by decide)) rfl T.g_bounds T.F_bounds.kp T.b_bounds .nil pass0 (pa_cons (pv 0) (pa_cons (pv 4) pa_nil))) (pg_tup (by rfl) (pgs_cons (pg_name (i := 5) sc_several_k08.nd rfl (Or.inl rfl)) (pgs_cons (pg_name (i := 6) sc_several_k08.nd rfl (Or.inl rfl)) pgs_nil))))
  (pss_one (ps_ret (pe_make T.mk_Several (ok_Several_init T) (hr.mono (by decide)) rfl T.g_Several T.b_Several_init .nil pass0 (pa_cons (pe_call (ok_stretches_of T) (hr.mono (by decide)) rfl T.g_stretches_of T.F_stretches_of.kp T.b_stretches_of .nil pass0 (pa_cons (pe_slice sl_list (pv 2) po_none (po_some (pe_un un_negI pe_int))) (pa_cons (pe_callB c_len (by rfl) T.n_len (by decide +kernel) (pa_cons (pv 0) pa_nil)) pa_nil))) (pa_cons (pv 4) (pa_cons (pv 5) (pa_cons (pv 6) pa_nil)))))))))))))
theorem ok_Steep_init (T : Txt K mg cs) : FnOk P w K mg base CX0 1 T.f_Steep_init T.d_Steep_init (["self", "first", "many", "lows"] : List Str) (sp_Steep_init K cs) := by
  refine T.F_Steep_init.ok sc_Steep_init (fun vs H Q E h => len_Steep_init h) (fun cdv A outer s H vs Q E hr h => ⟨t_Steep_init K cs, ?_, pure_Steep_init (T_okSteep T) h⟩)
  have hu := hu_of hr
  exact (pss_cons (ps_fld (pv 0) (pv 1) rfl)
  (pss_cons (ps_fld (pv 0) (pv 2) rfl)
  (pss_one (ps_fld (pv 0) (pe_callTy c_list (by rfl) T.n_list (by decide +kernel) (pa_cons (pv 3) pa_nil)) rfl))))
theorem ok_steepest_k08 (T : Txt K mg cs) : FnOk P w K mg base (L2.CX P w) 3 T.f_steepest_k08 T.d_steepest_k08 (["row", "least"] : List Str) (sp_steepest_k08 K cs) := by
  refine T.F_steepest_k08.okX sc_steepest_k08 (fun vs H Q E h => len_steepest_k08 h) (fun cdv A outer s H vs Q E hr h => ⟨t_steepest_k08 K cs E, ?_, pure_steepest_k08  h⟩)
  have hu := hu_of hr
  exact (pss_cons (ps_expr (pe_callS (ok_asked_row_k08 T) (hr.mono (by decide)) rfl T.g_asked_row_k08 T.F_asked_row_k08.kp T.b_asked_row_k08 (fun σ => passAt (takes_of rfl rfl rfl rfl) σ) (pa_cons (pv 0) pa_nil)))
  (pss_cons (ps_expr (pe_callS (ok_asked_least_k08 T) (hr.mono (by decide)) rfl T.g_asked_least_k08 T.F_asked_least_k08.kp T.b_asked_least_k08 (fun σ => passAt (takes_of rfl rfl rfl rfl) σ) (pa_cons (pv 0) (pa_cons (pv 1) pa_nil))))
  (pss_cons (ps_set (i := 2) sc_steepest_k08.nd rfl (Or.inl rfl) pe_int)
  (pss_cons (ps_set (i := 3) sc_steepest_k08.nd rfl (Or.inr rfl) (pv 1))
  (pss_one (ps_while (passes_of rfl) (pt_val pe_bl) (pss_cons (ps_set (i := 4) sc_steepest_k08.nd rfl (Or.inr rfl) (pe_callB (cr_sum rfl) (by rfl) T.n_sum (by decide +kernel) (pa_cons (pe_slice sl_list (pv 0) (po_some (pv 2)) (po_some (pe_op op_addI (pv 2) (pv 3)))) pa_nil)))
  (pss_cons (ps_setLc (i := 5) (own := [("one", 9)]) rfl sc_steepest_k08.nd rfl rfl (sw_true rfl rfl rfl (by decide +kernel)) (pi_list (pv 0)) (blkOk_by (own := [("one", 9)]) (N := N_steepest_k08) (sc := defScope s_steepest_k08) (by decide +kernel)) (fun _ _ _ _ _ => (pg_name (i := 9) sc_steepest_k08.nd rfl (Or.inl rfl))) (fun _ _ _ _ _ => pts_nil) (fun _ _ _ _ _ => (pe_op op_subI (pe_op op_mulI (pv 9) (pv 3)) (pv 4))))
  (pss_cons (ps_asg (pe_call (ok_best_of T) (hr.mono (by decide)) rfl T.g_best_of T.F_best_of.kp T.b_best_of .nil pass0 (pa_cons (pv 5) (pa_cons (pv 1) pa_nil))) (pg_tup (by rfl) (pgs_cons (pg_name (i := 6) sc_steepest_k08.nd rfl (Or.inl rfl)) (pgs_cons (pg_name (i := 7) sc_steepest_k08.nd rfl (Or.inl rfl)) (pgs_cons (pg_name (i := 8) sc_steepest_k08.nd rfl (Or.inl rfl)) pgs_nil)))))
  (pss_cons (ps_if (pt_cmpR op_leI (pe_callB (cr_sum rfl) (by rfl) T.n_sum (by decide +kernel) (pa_cons (pe_slice sl_list (pv 5) (po_some (pv 6)) (po_some (pe_op op_addI (pv 6) (pv 7)))) pa_nil)) pe_int (nomark _)) (pss_one (ps_ret (pe_make T.mk_Steep (ok_Steep_init T) (hr.mono (by decide)) rfl T.g_Steep T.b_Steep_init .nil pass0 (pa_cons (pv 2) (pa_cons (pv 3) (pa_cons (pv 8) pa_nil)))))) pss_nil)
  (pss_cons (ps_set (i := 2) sc_steepest_k08.nd rfl (Or.inl rfl) (pv 6))
  (pss_one (ps_set (i := 3) sc_steepest_k08.nd rfl (Or.inr rfl) (pv 7))))))))))))))
theorem ok_sums_k08 (T : Txt K mg cs) : FnOk P w K mg base (L2.CX P w) 3 T.f_sums_k08 T.d_sums_k08 (["row"] : List Str) (sp_sums_k08 K cs) := by
  refine T.F_sums_k08.okX sc_sums_k08 (fun vs H Q E h => len_sums_k08 h) (fun cdv A outer s H vs Q E hr h => ⟨t_sums_k08 K cs E, ?_, pure_sums_k08  h⟩)
  have hu := hu_of hr
  exact (pss_cons (ps_expr (pe_callS (ok_asked_row_k08 T) (hr.mono (by decide)) rfl T.g_asked_row_k08 T.F_asked_row_k08.kp T.b_asked_row_k08 (fun σ => passAt (takes_of rfl rfl rfl rfl) σ) (pa_cons (pv 0) pa_nil)))
  (pss_one (ps_ret (pe_call (ok_summed T) (hr.mono (by decide)) rfl T.g_summed T.F_summed.kp T.b_summed .nil pass0 (pa_cons (pv 0) pa_nil)))))
theorem held_doors_l_rows_asked_k08_0 (T : Txt K mg cs) (f : Addr) (sp : Sp) (h : doors_l_rows_asked_k08_0 K cs f sp) : ∃ (fd : FuncData) (ps : List Str), FnOk P w K mg base (L2.CX P w) 3 f fd ps sp ∧ PySem.W.keepIn K (.ref f) = true ∧ Binds K fd ps [] := by
  rcases h with ⟨rfl, rfl⟩ | ⟨rfl, rfl⟩
  · rw [← T.e_sums]
    exact ⟨_, _, ok_sums_k08 T, T.F_sums_k08.kp, T.b_sums_k08⟩
  · rw [← T.e_around]
    exact ⟨_, _, ok_around_k08 T, T.F_around_k08.kp, T.b_around_k08⟩
theorem held_doors_l_rows_asked_k08_1 (T : Txt K mg cs) (f : Addr) (sp : Sp) (h : doors_l_rows_asked_k08_1 K cs f sp) : ∃ (fd : FuncData) (ps : List Str), FnOk P w K mg base (L2.CX P w) 3 f fd ps sp ∧ PySem.W.keepIn K (.ref f) = true ∧ Binds K fd ps [] := by
  rcases h with ⟨rfl, rfl⟩ | ⟨rfl, rfl⟩ | ⟨rfl, rfl⟩ | ⟨rfl, rfl⟩ | ⟨rfl, rfl⟩
  · rw [← T.e_best]
    exact ⟨_, _, ok_best_k08 T, T.F_best_k08.kp, T.b_best_k08⟩
  · rw [← T.e_steepest]
    exact ⟨_, _, ok_steepest_k08 T, T.F_steepest_k08.kp, T.b_steepest_k08⟩
  · rw [← T.e_exact]
    exact ⟨_, _, ok_exact_k08 T, T.F_exact_k08.kp, T.b_exact_k08⟩
  · rw [← T.e_how_many]
    exact ⟨_, _, ok_how_many_k08 T, T.F_how_many_k08.kp, T.b_how_many_k08⟩
  · rw [← T.e_several]
    exact ⟨_, _, ok_several_k08 T, T.F_several_k08.kp, T.b_several_k08⟩
theorem ok_l_rows_asked_k08 (T : Txt K mg cs) : FnOk P w K mg base (L2.CX P w) 4 T.f_l_rows_asked_k08 T.d_l_rows_asked_k08 (["_law_which", "_law_more"] : List Str) (sp_l_rows_asked_k08 K cs) := by
  refine T.F_l_rows_asked_k08.okX sc_l_rows_asked_k08 (fun vs H Q E h => len_l_rows_asked_k08 h) (fun cdv A outer s H vs Q E hr h => ⟨t_l_rows_asked_k08 K cs E, ?_, pure_l_rows_asked_k08  h⟩)
  have hu := hu_of hr
  exact (pss_cons (ps_set (i := 2) sc_l_rows_asked_k08.nd rfl (Or.inl rfl) (pe_ix ix_list (pe_lst (pa_cons pe_non (pa_cons (pe_tup (pa_cons pe_int (pa_cons pe_int pa_nil))) (pa_cons pe_str (pa_cons pe_int (pa_cons (pe_lst (pa_cons (pe_op op_addI pe_int (pv 1)) pa_nil)) (pa_cons (pe_lst (pa_cons (pe_op op_subI (pe_un un_negI pe_int) (pv 1)) pa_nil)) (pa_cons (pe_lst (pa_cons pe_bl pa_nil)) (pa_cons (pe_lst (pa_cons pe_str pa_nil)) (pa_cons (pe_lst (pa_cons pe_non pa_nil)) pa_nil)))))))))) (pe_op op_modI (pv 0) pe_int) (fun _ _ => rfl)))
  (pss_cons (ps_if (pt_val (pe_callB call_isi (by rfl) T.n_isinstance (by decide +kernel) (pa_cons (pv 2) (pa_cons (pe_bltn (by rfl) T.n_list (by decide +kernel) rfl) pa_nil)))) (pss_one (ps_set (i := 2) sc_l_rows_asked_k08.nd rfl (Or.inl rfl) (pe_op op_cat (pe_op op_rep (pe_lst (pa_cons pe_int pa_nil)) (pe_op op_modI (pv 1) pe_int)) (pv 2)))) pss_nil)
  (pss_cons (ps_set (i := 3) sc_l_rows_asked_k08.nd rfl (Or.inl rfl) (pe_op op_modI (pe_op op_divI (pv 0) pe_int) pe_int))
  (pss_cons (ps_if (pt_cmpR op_ltI (pv 3) pe_int (nomark _)) (pss_one (ps_ret (pe_callX (held_doors_l_rows_asked_k08_0 T) (hr.mono (by decide)) (fun σ => passAt (takes_of rfl rfl rfl rfl) σ) (pe_ix ix_list (pe_lst (pa_cons (pe_glob rfl T.g_sums_k08 (congrArg Value.ref T.e_sums)) (pa_cons (pe_glob rfl T.g_around_k08 (congrArg Value.ref T.e_around)) pa_nil))) (pv 3) (fun _ _ => rfl)) (pa_cons (pv 2) pa_nil)))) pss_nil)
  (pss_one (ps_ret (pe_callX (held_doors_l_rows_asked_k08_1 T) (hr.mono (by decide)) (fun σ => passAt (takes_of rfl rfl rfl rfl) σ) (pe_ix ix_list (pe_lst (pa_cons (pe_glob rfl T.g_best_k08 (congrArg Value.ref T.e_best)) (pa_cons (pe_glob rfl T.g_steepest_k08 (congrArg Value.ref T.e_steepest)) (pa_cons (pe_glob rfl T.g_exact_k08 (congrArg Value.ref T.e_exact)) (pa_cons (pe_glob rfl T.g_how_many_k08 (congrArg Value.ref T.e_how_many)) (pa_cons (pe_glob rfl T.g_several_k08 (congrArg Value.ref T.e_several)) pa_nil)))))) (pe_op op_subI (pv 3) pe_int) (fun _ _ => rfl)) (pa_cons (pv 2) (pa_cons pe_non pa_nil)))))))))
theorem held_doors_l_told_k08_0 (T : Txt K mg cs) (f : Addr) (sp : Sp) (h : doors_l_told_k08_0 K cs f sp) : ∃ (fd : FuncData) (ps : List Str), FnOk P w K mg base (L2.CX P w) 3 f fd ps sp ∧ PySem.W.keepIn K (.ref f) = true ∧ Binds K fd ps [] := by
  rcases h with ⟨rfl, rfl⟩ | ⟨rfl, rfl⟩
  · rw [← T.e_best]
    exact ⟨_, _, ok_best_k08 T, T.F_best_k08.kp, T.b_best_k08⟩
  · rw [← T.e_steepest]
    exact ⟨_, _, ok_steepest_k08 T, T.F_steepest_k08.kp, T.b_steepest_k08⟩
theorem held_doors_l_told_k08_1 (T : Txt K mg cs) (f : Addr) (sp : Sp) (h : doors_l_told_k08_1 K cs f sp) : ∃ (fd : FuncData) (ps : List Str), FnOk P w K mg base (L2.CX P w) 3 f fd ps sp ∧ PySem.W.keepIn K (.ref f) = true ∧ Binds K fd ps [] := by
  rcases h with ⟨rfl, rfl⟩ | ⟨rfl, rfl⟩
  · rw [← T.e_exact]
    exact ⟨_, _, ok_exact_k08 T, T.F_exact_k08.kp, T.b_exact_k08⟩
  · rw [← T.e_how_many]
    exact ⟨_, _, ok_how_many_k08 T, T.F_how_many_k08.kp, T.b_how_many_k08⟩
theorem ok_l_told_k08 (T : Txt K mg cs) : FnOk P w K mg base CX0 5 T.f_l_told_k08 T.d_l_told_k08 (["_law_kind", "_law_which", "_law_more"] : List Str) (sp_l_told_k08 K cs) := by
  refine T.F_l_told_k08.ok sc_l_told_k08 (fun vs H Q E h => len_l_told_k08 h) (fun cdv A outer s H vs Q E hr h => ⟨t_l_told_k08 K cs, ?_, pure_l_told_k08 (T_errs T) h⟩)
  have hu := hu_of hr
  exact (pss_cons (ps_try_as (i := 3) (tb := fun W => (tIfS (tTest (tOp rEq (tVar 0) (tC (.int 0)))) (tDrop (tCallS (sp_l_rows_asked_k08 K cs) (WE W) (tCons (tVar 1) (tCons (tVar 2) tNil)))) (tIfS (tAnd (tTest (tOp rEq (tVar 0) (tC (.int 1)))) (tTest (tOp rEq (tOp rModI (tVar 1) (tC (.int 3))) (tC (.int 0))))) (tDrop (tCallS (sp_around_k08 K cs) (WE W) (tCons (tLst tNil) tNil))) (tIfS (tTest (tOp rEq (tVar 0) (tC (.int 1)))) (tSeq (tAsg (tOp (rIxL K) (tLst (tCons (tC .non) (tCons (tC (.str "1")) (tCons (tC (.bl true)) (tCons (tLst (tCons (tC (.int 1)) tNil)) (tCons (tC (.int 0)) (tCons (tOp rSubI (tUn rNegI (tC (.int 1))) (tVar 2)) (tCons (tOp rAddI (tC (.int 3)) (tVar 2)) (tCons (tTup (tCons (tC (.int 1)) tNil)) tNil))))))))) (tOp rModI (tOp rDivI (tVar 1) (tC (.int 3))) (tC (.int 8)))) (gName 5))
  (tDrop (tCallX (doors_l_told_k08_0 K cs) (WE W) (tOp (rIxL K) (tLst (tCons (tC (.ref cs.f_best)) (tCons (tC (.ref cs.f_steepest)) tNil))) (tOp rSubI (tOp rModI (tVar 1) (tC (.int 3))) (tC (.int 1)))) (tCons (tLst (tCons (tC (.int 5)) (tCons (tC (.int 6)) tNil))) (tCons (tVar 5) tNil))))) (tIfS (tTest (tOp rEq (tVar 0) (tC (.int 2)))) (tDrop (tCallX (doors_l_told_k08_1 K cs) (WE W) (tOp (rIxL K) (tLst (tCons (tC (.ref cs.f_exact)) (tCons (tC (.ref cs.f_how_many)) tNil))) (tOp rModI (tVar 1) (tC (.int 2)))) (tCons (tLst (tCons (tC (.int 5)) (tCons (tC (.int 6)) tNil))) (tCons (tOp (rIxL K) (tLst (tCons (tC .non) (tCons (tC (.str "1")) (tCons (tC (.bl true)) (tCons (tLst (tCons (tC (.int 1)) tNil)) (tCons (tTup (tCons (tC (.int 1)) tNil)) (tCons tDNewK tNil))))))) (tOp rModI (tOp rDivI (tVar 1) (tC (.int 2))) (tC (.int 6)))) tNil)))) (tDrop (tCallS (sp_several_k08 K cs) (WE W) (tCons (tLst (tCons (tC (.int 5)) (tCons (tC (.int 6)) tNil))) (tCons (tOp (rIxL K) (tLst (tCons (tC .non) (tCons (tC (.str "1")) (tCons (tC (.bl true)) (tCons (tLst (tCons (tC (.int 1)) tNil)) (tCons (tTup (tCons (tC (.int 1)) tNil)) (tCons (tUn rNegI (tC (.int 1))) (tCons (tOp rSubI (tUn rNegI (tC (.int 1))) (tVar 2)) tNil)))))))) (tOp rModI (tVar 1) (tC (.int 7)))) tNil))))))))) (ts := fun a cls d => (tSeq (tAsg (tLst (tCons (tCB (rIsEs K (badsOf cs) a cls d) (tCons (tVar 3) (tCons (tC (.ref cs.BadRow)) tNil))) (tCons (tCB (rIsEs K (badsOf cs) a cls d) (tCons (tVar 3) (tCons (tC (.ref cs.BadLeast)) tNil))) (tCons (tCB (rIsEs K (badsOf cs) a cls d) (tCons (tVar 3) (tCons (tC (.ref cs.BadTotal)) tNil))) tNil)))) (gName 4))
  (tRet (tOp rCat (tVar 4) (tLst (tCons (tCB (rIsEs K (badsOf cs) a cls d) (tCons (tVar 3) (tCons (tC (.ref cs.BadMany)) tNil))) (tCons (tCB (rIsEs K (badsOf cs) a cls d) (tCons (tVar 3) (tCons (tC (.ty "ValueError")) tNil))) tNil))))))) (Wout := fun _ _ _ _ => False) rfl rfl sc_l_told_k08.nd rfl rfl ⟨rfl, by decide, Or.inl T.g_StretchError⟩ takes0 (fun W pn xe tk _ => (pss_one (ps_if (pt_cmpR op_eq (pv 0) pe_int (nomark _)) (pss_one (ps_expr (pe_callS (ok_l_rows_asked_k08 T) (hr.mono (by decide)) rfl T.g_l_rows_asked_k08 T.F_l_rows_asked_k08.kp T.b_l_rows_asked_k08 (fun σ => passAt tk σ) (pa_cons (pv 1) (pa_cons (pv 2) pa_nil))))) (pss_one (ps_if (PW.pt (pw_and (pt_cmpR op_eq (pv 0) pe_int (nomark _)) (pw_and1 (pt_cmpR op_eq (pe_op op_modI (pv 1) pe_int) pe_int (nomark _))))) (pss_one (ps_expr (pe_callS (ok_around_k08 T) (hr.mono (by decide)) rfl T.g_around_k08 T.F_around_k08.kp T.b_around_k08 (fun σ => passAt tk σ) (pa_cons (pe_lst pa_nil) pa_nil)))) (pss_one (ps_if (pt_cmpR op_eq (pv 0) pe_int (nomark _)) (pss_cons (ps_set (i := 5) sc_l_told_k08.nd rfl (Or.inl rfl) (pe_ix ix_list (pe_lst (pa_cons pe_non (pa_cons pe_str (pa_cons pe_bl (pa_cons (pe_lst (pa_cons pe_int pa_nil)) (pa_cons pe_int (pa_cons (pe_op op_subI (pe_un un_negI pe_int) (pv 2)) (pa_cons (pe_op op_addI pe_int (pv 2)) (pa_cons (pe_tup (pa_cons pe_int pa_nil)) pa_nil))))))))) (pe_op op_modI (pe_op op_divI (pv 1) pe_int) pe_int) (fun _ _ => rfl)))
  (pss_one (ps_expr (pe_callX (held_doors_l_told_k08_0 T) (hr.mono (by decide)) (fun σ => passAt tk σ) (pe_ix ix_list (pe_lst (pa_cons (pe_glob rfl T.g_best_k08 (congrArg Value.ref T.e_best)) (pa_cons (pe_glob rfl T.g_steepest_k08 (congrArg Value.ref T.e_steepest)) pa_nil))) (pe_op op_subI (pe_op op_modI (pv 1) pe_int) pe_int) (fun _ _ => rfl)) (pa_cons (pe_lst (pa_cons pe_int (pa_cons pe_int pa_nil))) (pa_cons (pv 5) pa_nil)))))) (pss_one (ps_if (pt_cmpR op_eq (pv 0) pe_int (nomark _)) (pss_one (ps_expr (pe_callX (held_doors_l_told_k08_1 T) (hr.mono (by decide)) (fun σ => passAt tk σ) (pe_ix ix_list (pe_lst (pa_cons (pe_glob rfl T.g_exact_k08 (congrArg Value.ref T.e_exact)) (pa_cons (pe_glob rfl T.g_how_many_k08 (congrArg Value.ref T.e_how_many)) pa_nil))) (pe_op op_modI (pv 1) pe_int) (fun _ _ => rfl)) (pa_cons (pe_lst (pa_cons pe_int (pa_cons pe_int pa_nil))) (pa_cons (pe_ix ix_list (pe_lst (pa_cons pe_non (pa_cons pe_str (pa_cons pe_bl (pa_cons (pe_lst (pa_cons pe_int pa_nil)) (pa_cons (pe_tup (pa_cons pe_int pa_nil)) (pa_cons pe_dnewK pa_nil))))))) (pe_op op_modI (pe_op op_divI (pv 1) pe_int) pe_int) (fun _ _ => rfl)) pa_nil))))) (pss_one (ps_expr (pe_callS (ok_several_k08 T) (hr.mono (by decide)) rfl T.g_several_k08 T.F_several_k08.kp T.b_several_k08 (fun σ => passAt tk σ) (pa_cons (pe_lst (pa_cons pe_int (pa_cons pe_int pa_nil))) (pa_cons (pe_ix ix_list (pe_lst (pa_cons pe_non (pa_cons pe_str (pa_cons pe_bl (pa_cons (pe_lst (pa_cons pe_int pa_nil)) (pa_cons (pe_tup (pa_cons pe_int pa_nil)) (pa_cons (pe_un un_negI pe_int) (pa_cons (pe_op op_subI (pe_un un_negI pe_int) (pv 2)) pa_nil)))))))) (pe_op op_modI (pv 1) pe_int) (fun _ _ => rfl)) pa_nil)))))))))))))) (fun a oe cls d pn hz hf => (pss_cons (ps_set (i := 4) sc_l_told_k08.nd rfl (Or.inl rfl) (pe_lst (pa_cons (pe_callB (call_isEs (T_excs T) hz hf) (by rfl) T.n_isinstance (by decide +kernel) (pa_cons (pv 3) (pa_cons (pe_glob rfl T.g_BadRow rfl) pa_nil))) (pa_cons (pe_callB (call_isEs (T_excs T) hz hf) (by rfl) T.n_isinstance (by decide +kernel) (pa_cons (pv 3) (pa_cons (pe_glob rfl T.g_BadLeast rfl) pa_nil))) (pa_cons (pe_callB (call_isEs (T_excs T) hz hf) (by rfl) T.n_isinstance (by decide +kernel) (pa_cons (pv 3) (pa_cons (pe_glob rfl T.g_BadTotal rfl) pa_nil))) pa_nil)))))
  (pss_one (ps_ret (pe_op op_cat (pv 4) (pe_lst (pa_cons (pe_callB (call_isEs (T_excs T) hz hf) (by rfl) T.n_isinstance (by decide +kernel) (pa_cons (pv 3) (pa_cons (pe_glob rfl T.g_BadMany rfl) pa_nil))) (pa_cons (pe_callB (call_isEs (T_excs T) hz hf) (by rfl) T.n_isinstance (by decide +kernel) (pa_cons (pv 3) (pa_cons (pe_bltn (by rfl) T.n_ValueError (by decide +kernel) rfl) pa_nil))) pa_nil)))))))))
  (pss_one (ps_ret (pe_lst pa_nil))))
theorem ok_law_k08 (T : Txt K mg cs) : FnOk P w K mg base CX0 6 T.f_law_k08 T.d_law_k08 (["_law_script"] : List Str) (sp_law_k08 K cs) := by
  refine T.F_law_k08.ok sc_law_k08 (fun vs H Q E h => len_law_k08 h) (fun cdv A outer s H vs Q E hr h => ⟨t_law_k08 K cs, ?_, pure_law_k08 (T_okBest T) (T_okAround T) (T_isi_Never T) (T_kit_Never_Never T) h⟩)
  have hu := hu_of hr
  exact (pss_cons (ps_for PassesOwn.never rfl (pi_list (pv 0)) (pg_name (i := 1) sc_law_k08.nd rfl (Or.inl rfl)) (pss_cons (ps_set (i := 2) sc_law_k08.nd rfl (Or.inl rfl) (pe_op op_modI (pv 1) pe_int))
  (pss_cons (ps_set (i := 3) sc_law_k08.nd rfl (Or.inl rfl) (pe_lst (pa_cons (pe_cmpR op_eq (pv 2) pe_int (nomark _)) (pa_cons (pe_cmpR op_eq (pv 2) pe_int (nomark _)) (pa_cons (pe_cmpR op_eq (pv 2) pe_int (nomark _)) (pa_cons (pe_cmpR op_eq (pv 2) pe_int (nomark _)) (pa_cons pe_bl pa_nil)))))))
  (pss_one (ps_if (pt_cmpR (op_neD hr.units) (pe_call (ok_l_told_k08 T) (hr.mono (by decide)) rfl T.g_l_told_k08 T.F_l_told_k08.kp T.b_l_told_k08 .nil pass0 (pa_cons (pv 2) (pa_cons (pe_op op_modI (pe_op op_divI (pv 1) pe_int) pe_int) (pa_cons (pe_op op_modI (pe_op op_divI (pv 1) pe_int) pe_int) pa_nil)))) (pv 3) (nomark _)) (pss_one (ps_ret pe_bl)) pss_nil)))))
  (pss_cons (ps_if (PW.pt (pw_or (pt_cmpR (op_neD hr.units) (pe_call (ok_sums_k08 T) (hr.mono (by decide)) rfl T.g_sums_k08 T.F_sums_k08.kp T.b_sums_k08 .nil passL (pa_cons (pe_lst pa_nil) pa_nil)) (pe_lst (pa_cons pe_int pa_nil)) (nomark _)) (pw_or (pt_cmpR op_ne (pe_call (ok_how_many_k08 T) (hr.mono (by decide)) rfl T.g_how_many_k08 T.F_how_many_k08.kp T.b_how_many_k08 .nil passL (pa_cons (pe_lst pa_nil) (pa_cons pe_int pa_nil))) pe_int (nomark _)) (pw_or1 (pt_cmpR op_ne (pe_fld (pe_call (ok_best_k08 T) (hr.mono (by decide)) rfl T.g_best_k08 T.F_best_k08.kp T.b_best_k08 .nil passL (pa_cons (pe_lst (pa_cons pe_int (pa_cons (pe_un un_negI pe_int) pa_nil))) (pa_cons pe_int pa_nil))) rfl) pe_int (nomark _)))))) (pss_one (ps_ret pe_bl)) pss_nil)
  (pss_one (ps_ret (pe_and (pe_callB call_isi (by rfl) T.n_isinstance (by decide +kernel) (pa_cons (pe_call (ok_exact_k08 T) (hr.mono (by decide)) rfl T.g_exact_k08 T.F_exact_k08.kp T.b_exact_k08 .nil passL (pa_cons (pe_lst (pa_cons pe_int (pa_cons pe_int pa_nil))) (pa_cons (pe_op op_powI pe_int pe_int) pa_nil))) (pa_cons (pe_glob rfl T.g_Never rfl) pa_nil))) (pe_one (pe_cmpR op_eq (pe_fld (pe_call (ok_around_k08 T) (hr.mono (by decide)) rfl T.g_around_k08 T.F_around_k08.kp T.b_around_k08 .nil passL (pa_cons (pe_lst (pa_cons (pe_un un_negI pe_int) pa_nil)) pa_nil)) rfl) pe_int (nomark _))))))))
end
def txt_mk {K : PySem.W.Frag} {h : Heap} {mg : Str → Option Value} (X : K.In h) (G : h.Ns mainGlobals mg)
    {tk_FARTHEST : Tok}
    {C_Around : Addr}
    {C_BadLeast : Addr}
    {C_BadMany : Addr}
    {C_BadRow : Addr}
    {C_BadTotal : Addr}
    {C_Best : Addr}
    {C_Exact : Addr}
    {C_Never : Addr}
    {C_Several : Addr}
    {C_Steep : Addr}
    {C_StretchError : Addr}
    {f_Around_init : Addr} {od_Around_init an_Around_init : Option Addr} {sl_Around_init : Array (Option Value)} {oc_Around_init kV_Around_init dc_Around_init pm_Around_init cd_Around_init ct_Around_init : Value}
    {f_is_number_k08 : Addr} {od_is_number_k08 an_is_number_k08 : Option Addr} {sl_is_number_k08 : Array (Option Value)} {oc_is_number_k08 kV_is_number_k08 dc_is_number_k08 pm_is_number_k08 cd_is_number_k08 ct_is_number_k08 : Value}
    {f_asked_least_k08 : Addr} {od_asked_least_k08 an_asked_least_k08 : Option Addr} {sl_asked_least_k08 : Array (Option Value)} {oc_asked_least_k08 kV_asked_least_k08 dc_asked_least_k08 pm_asked_least_k08 cd_asked_least_k08 ct_asked_least_k08 : Value}
    {f_asked_row_k08 : Addr} {od_asked_row_k08 an_asked_row_k08 : Option Addr} {sl_asked_row_k08 : Array (Option Value)} {oc_asked_row_k08 kV_asked_row_k08 dc_asked_row_k08 pm_asked_row_k08 cd_asked_row_k08 ct_asked_row_k08 : Value}
    {f_summed : Addr} {od_summed an_summed : Option Addr} {sl_summed : Array (Option Value)} {oc_summed kV_summed dc_summed pm_summed cd_summed ct_summed : Value}
    {f_best_of : Addr} {od_best_of an_best_of : Option Addr} {sl_best_of : Array (Option Value)} {oc_best_of kV_best_of dc_best_of pm_best_of cd_best_of ct_best_of : Value}
    {f_around_k08 : Addr} {od_around_k08 an_around_k08 : Option Addr} {sl_around_k08 : Array (Option Value)} {oc_around_k08 kV_around_k08 dc_around_k08 pm_around_k08 cd_around_k08 ct_around_k08 : Value}
    {f_Best_init : Addr} {od_Best_init an_Best_init : Option Addr} {sl_Best_init : Array (Option Value)} {oc_Best_init kV_Best_init dc_Best_init pm_Best_init cd_Best_init ct_Best_init : Value}
    {f_best_k08 : Addr} {od_best_k08 an_best_k08 : Option Addr} {sl_best_k08 : Array (Option Value)} {oc_best_k08 kV_best_k08 dc_best_k08 pm_best_k08 cd_best_k08 ct_best_k08 : Value}
    {f_Exact_init : Addr} {od_Exact_init an_Exact_init : Option Addr} {sl_Exact_init : Array (Option Value)} {oc_Exact_init kV_Exact_init dc_Exact_init pm_Exact_init cd_Exact_init ct_Exact_init : Value}
    {f_Never_init : Addr} {od_Never_init an_Never_init : Option Addr} {sl_Never_init : Array (Option Value)} {oc_Never_init kV_Never_init dc_Never_init pm_Never_init cd_Never_init ct_Never_init : Value}
    {f_asked_total_k08 : Addr} {od_asked_total_k08 an_asked_total_k08 : Option Addr} {sl_asked_total_k08 : Array (Option Value)} {oc_asked_total_k08 kV_asked_total_k08 dc_asked_total_k08 pm_asked_total_k08 cd_asked_total_k08 ct_asked_total_k08 : Value}
    {f_exact_k08 : Addr} {od_exact_k08 an_exact_k08 : Option Addr} {sl_exact_k08 : Array (Option Value)} {oc_exact_k08 kV_exact_k08 dc_exact_k08 pm_exact_k08 cd_exact_k08 ct_exact_k08 : Value}
    {f_how_many_k08 : Addr} {od_how_many_k08 an_how_many_k08 : Option Addr} {sl_how_many_k08 : Array (Option Value)} {oc_how_many_k08 kV_how_many_k08 dc_how_many_k08 pm_how_many_k08 cd_how_many_k08 ct_how_many_k08 : Value}
    {f_Several_init : Addr} {od_Several_init an_Several_init : Option Addr} {sl_Several_init : Array (Option Value)} {oc_Several_init kV_Several_init dc_Several_init pm_Several_init cd_Several_init ct_Several_init : Value}
    {f_added : Addr} {od_added an_added : Option Addr} {sl_added : Array (Option Value)} {oc_added kV_added dc_added pm_added cd_added ct_added : Value}
    {f_asked_many_k08 : Addr} {od_asked_many_k08 an_asked_many_k08 : Option Addr} {sl_asked_many_k08 : Array (Option Value)} {oc_asked_many_k08 kV_asked_many_k08 dc_asked_many_k08 pm_asked_many_k08 cd_asked_many_k08 ct_asked_many_k08 : Value}
    {f_bounds : Addr} {od_bounds an_bounds : Option Addr} {sl_bounds : Array (Option Value)} {oc_bounds kV_bounds dc_bounds pm_bounds cd_bounds ct_bounds : Value}
    {f_stretches_of : Addr} {od_stretches_of an_stretches_of : Option Addr} {sl_stretches_of : Array (Option Value)} {oc_stretches_of kV_stretches_of dc_stretches_of pm_stretches_of cd_stretches_of ct_stretches_of : Value}
    {f_several_k08 : Addr} {od_several_k08 an_several_k08 : Option Addr} {sl_several_k08 : Array (Option Value)} {oc_several_k08 kV_several_k08 dc_several_k08 pm_several_k08 cd_several_k08 ct_several_k08 : Value}
    {f_Steep_init : Addr} {od_Steep_init an_Steep_init : Option Addr} {sl_Steep_init : Array (Option Value)} {oc_Steep_init kV_Steep_init dc_Steep_init pm_Steep_init cd_Steep_init ct_Steep_init : Value}
    {f_steepest_k08 : Addr} {od_steepest_k08 an_steepest_k08 : Option Addr} {sl_steepest_k08 : Array (Option Value)} {oc_steepest_k08 kV_steepest_k08 dc_steepest_k08 pm_steepest_k08 cd_steepest_k08 ct_steepest_k08 : Value}
    {f_sums_k08 : Addr} {od_sums_k08 an_sums_k08 : Option Addr} {sl_sums_k08 : Array (Option Value)} {oc_sums_k08 kV_sums_k08 dc_sums_k08 pm_sums_k08 cd_sums_k08 ct_sums_k08 : Value}
    {f_l_rows_asked_k08 : Addr} {od_l_rows_asked_k08 an_l_rows_asked_k08 : Option Addr} {sl_l_rows_asked_k08 : Array (Option Value)} {oc_l_rows_asked_k08 kV_l_rows_asked_k08 dc_l_rows_asked_k08 pm_l_rows_asked_k08 cd_l_rows_asked_k08 ct_l_rows_asked_k08 : Value}
    {f_l_told_k08 : Addr} {od_l_told_k08 an_l_told_k08 : Option Addr} {sl_l_told_k08 : Array (Option Value)} {oc_l_told_k08 kV_l_told_k08 dc_l_told_k08 pm_l_told_k08 cd_l_told_k08 ct_l_told_k08 : Value}
    {f_law_k08 : Addr} {od_law_k08 an_law_k08 : Option Addr} {sl_law_k08 : Array (Option Value)} {oc_law_k08 kV_law_k08 dc_law_k08 pm_law_k08 cd_law_k08 ct_law_k08 : Value}
    (z_ValueError : PySem.W.nsIn K mainGlobals "ValueError" = some none)
    (z_all : PySem.W.nsIn K mainGlobals "all" = some none)
    (z_bool : PySem.W.nsIn K mainGlobals "bool" = some none)
    (z_enumerate : PySem.W.nsIn K mainGlobals "enumerate" = some none)
    (z_int : PySem.W.nsIn K mainGlobals "int" = some none)
    (z_isinstance : PySem.W.nsIn K mainGlobals "isinstance" = some none)
    (z_len : PySem.W.nsIn K mainGlobals "len" = some none)
    (z_list : PySem.W.nsIn K mainGlobals "list" = some none)
    (z_max : PySem.W.nsIn K mainGlobals "max" = some none)
    (z_min : PySem.W.nsIn K mainGlobals "min" = some none)
    (z_range : PySem.W.nsIn K mainGlobals "range" = some none)
    (z_sorted : PySem.W.nsIn K mainGlobals "sorted" = some none)
    (z_sum : PySem.W.nsIn K mainGlobals "sum" = some none)
    (c_FARTHEST : PySem.W.nsIn K mainGlobals "FARTHEST" = some (some (.int 1000000 tk_FARTHEST)))
    (a_Around : PySem.W.nsIn K mainGlobals "Around" = some (some (.ref C_Around)))
    (a_BadLeast : PySem.W.nsIn K mainGlobals "BadLeast" = some (some (.ref C_BadLeast)))
    (a_BadMany : PySem.W.nsIn K mainGlobals "BadMany" = some (some (.ref C_BadMany)))
    (a_BadRow : PySem.W.nsIn K mainGlobals "BadRow" = some (some (.ref C_BadRow)))
    (a_BadTotal : PySem.W.nsIn K mainGlobals "BadTotal" = some (some (.ref C_BadTotal)))
    (a_Best : PySem.W.nsIn K mainGlobals "Best" = some (some (.ref C_Best)))
    (a_Exact : PySem.W.nsIn K mainGlobals "Exact" = some (some (.ref C_Exact)))
    (a_Never : PySem.W.nsIn K mainGlobals "Never" = some (some (.ref C_Never)))
    (a_Several : PySem.W.nsIn K mainGlobals "Several" = some (some (.ref C_Several)))
    (a_Steep : PySem.W.nsIn K mainGlobals "Steep" = some (some (.ref C_Steep)))
    (a_StretchError : PySem.W.nsIn K mainGlobals "StretchError" = some (some (.ref C_StretchError)))
    (pg_Around : PySem.W.plainGet K C_Around Str.empty = true)
    (hd_Around : PySem.W.hasDictIn K C_Around = true)
    (po_Around : PySem.W.plainOver K C_Around = true)
    (sa_Around : PySem.W.findIn K (.ref C_Around) "__setattr__" = some (some (.builtin "object.__setattr__")))
    (pg_Best : PySem.W.plainGet K C_Best Str.empty = true)
    (hd_Best : PySem.W.hasDictIn K C_Best = true)
    (po_Best : PySem.W.plainOver K C_Best = true)
    (sa_Best : PySem.W.findIn K (.ref C_Best) "__setattr__" = some (some (.builtin "object.__setattr__")))
    (pg_Exact : PySem.W.plainGet K C_Exact Str.empty = true)
    (hd_Exact : PySem.W.hasDictIn K C_Exact = true)
    (po_Exact : PySem.W.plainOver K C_Exact = true)
    (sa_Exact : PySem.W.findIn K (.ref C_Exact) "__setattr__" = some (some (.builtin "object.__setattr__")))
    (pg_Never : PySem.W.plainGet K C_Never Str.empty = true)
    (hd_Never : PySem.W.hasDictIn K C_Never = true)
    (po_Never : PySem.W.plainOver K C_Never = true)
    (sa_Never : PySem.W.findIn K (.ref C_Never) "__setattr__" = some (some (.builtin "object.__setattr__")))
    (pg_Several : PySem.W.plainGet K C_Several Str.empty = true)
    (hd_Several : PySem.W.hasDictIn K C_Several = true)
    (po_Several : PySem.W.plainOver K C_Several = true)
    (sa_Several : PySem.W.findIn K (.ref C_Several) "__setattr__" = some (some (.builtin "object.__setattr__")))
    (pg_Steep : PySem.W.plainGet K C_Steep Str.empty = true)
    (hd_Steep : PySem.W.hasDictIn K C_Steep = true)
    (po_Steep : PySem.W.plainOver K C_Steep = true)
    (sa_Steep : PySem.W.findIn K (.ref C_Steep) "__setattr__" = some (some (.builtin "object.__setattr__")))
    (na_Around_first : PySem.W.findIn K (.ref C_Around) "first" = some none)
    (na_Around_lows : PySem.W.findIn K (.ref C_Around) "lows" = some none)
    (na_Around_many : PySem.W.findIn K (.ref C_Around) "many" = some none)
    (na_Around_tops : PySem.W.findIn K (.ref C_Around) "tops" = some none)
    (na_Best_first : PySem.W.findIn K (.ref C_Best) "first" = some none)
    (na_Best_lows : PySem.W.findIn K (.ref C_Best) "lows" = some none)
    (na_Best_many : PySem.W.findIn K (.ref C_Best) "many" = some none)
    (na_Exact_first : PySem.W.findIn K (.ref C_Exact) "first" = some none)
    (na_Exact_many : PySem.W.findIn K (.ref C_Exact) "many" = some none)
    (na_Never_table : PySem.W.findIn K (.ref C_Never) "table" = some none)
    (na_Several_ins : PySem.W.findIn K (.ref C_Several) "ins" = some none)
    (na_Several_outs : PySem.W.findIn K (.ref C_Several) "outs" = some none)
    (na_Several_price : PySem.W.findIn K (.ref C_Several) "price" = some none)
    (na_Several_stretches : PySem.W.findIn K (.ref C_Several) "stretches" = some none)
    (na_Steep_first : PySem.W.findIn K (.ref C_Steep) "first" = some none)
    (na_Steep_lows : PySem.W.findIn K (.ref C_Steep) "lows" = some none)
    (na_Steep_many : PySem.W.findIn K (.ref C_Steep) "many" = some none)
    (a_Around_init : PySem.W.findIn K (.ref C_Around) "__init__" = some (some (.ref f_Around_init)))
    (i_Around_init : PySem.W.isFn K (.ref f_Around_init) = true)
    (l_Around_init : K.lookup f_Around_init = some ⟨oc_Around_init, od_Around_init, .func (PySem.W.fnOf "__init__" "Around.__init__" (defArgs s_Around_init) (defBody s_Around_init) (defScope s_Around_init) .none kV_Around_init dc_Around_init pm_Around_init an_Around_init cd_Around_init ct_Around_init), sl_Around_init⟩)
    (c_Around_init : PySem.W.codeIn K cd_Around_init "Around.__init__" = true)
    (k_Around_init : PySem.W.keepIn K (.ref f_Around_init) = true)
    (a_is_number_k08 : PySem.W.nsIn K mainGlobals "is_number" = some (some (.ref f_is_number_k08)))
    (l_is_number_k08 : K.lookup f_is_number_k08 = some ⟨oc_is_number_k08, od_is_number_k08, .func (PySem.W.fnOf "is_number" "is_number" (defArgs s_is_number_k08) (defBody s_is_number_k08) (defScope s_is_number_k08) .none kV_is_number_k08 dc_is_number_k08 pm_is_number_k08 an_is_number_k08 cd_is_number_k08 ct_is_number_k08), sl_is_number_k08⟩)
    (c_is_number_k08 : PySem.W.codeIn K cd_is_number_k08 "is_number" = true)
    (k_is_number_k08 : PySem.W.keepIn K (.ref f_is_number_k08) = true)
    (a_asked_least_k08 : PySem.W.nsIn K mainGlobals "asked_least" = some (some (.ref f_asked_least_k08)))
    (l_asked_least_k08 : K.lookup f_asked_least_k08 = some ⟨oc_asked_least_k08, od_asked_least_k08, .func (PySem.W.fnOf "asked_least" "asked_least" (defArgs s_asked_least_k08) (defBody s_asked_least_k08) (defScope s_asked_least_k08) .none kV_asked_least_k08 dc_asked_least_k08 pm_asked_least_k08 an_asked_least_k08 cd_asked_least_k08 ct_asked_least_k08), sl_asked_least_k08⟩)
    (c_asked_least_k08 : PySem.W.codeIn K cd_asked_least_k08 "asked_least" = true)
    (k_asked_least_k08 : PySem.W.keepIn K (.ref f_asked_least_k08) = true)
    (a_asked_row_k08 : PySem.W.nsIn K mainGlobals "asked_row" = some (some (.ref f_asked_row_k08)))
    (l_asked_row_k08 : K.lookup f_asked_row_k08 = some ⟨oc_asked_row_k08, od_asked_row_k08, .func (PySem.W.fnOf "asked_row" "asked_row" (defArgs s_asked_row_k08) (defBody s_asked_row_k08) (defScope s_asked_row_k08) .none kV_asked_row_k08 dc_asked_row_k08 pm_asked_row_k08 an_asked_row_k08 cd_asked_row_k08 ct_asked_row_k08), sl_asked_row_k08⟩)
    (c_asked_row_k08 : PySem.W.codeIn K cd_asked_row_k08 "asked_row" = true)
    (k_asked_row_k08 : PySem.W.keepIn K (.ref f_asked_row_k08) = true)
    (a_summed : PySem.W.nsIn K mainGlobals "summed" = some (some (.ref f_summed)))
    (l_summed : K.lookup f_summed = some ⟨oc_summed, od_summed, .func (PySem.W.fnOf "summed" "summed" (defArgs s_summed) (defBody s_summed) (defScope s_summed) .none kV_summed dc_summed pm_summed an_summed cd_summed ct_summed), sl_summed⟩)
    (c_summed : PySem.W.codeIn K cd_summed "summed" = true)
    (k_summed : PySem.W.keepIn K (.ref f_summed) = true)
    (a_best_of : PySem.W.nsIn K mainGlobals "best_of" = some (some (.ref f_best_of)))
    (l_best_of : K.lookup f_best_of = some ⟨oc_best_of, od_best_of, .func (PySem.W.fnOf "best_of" "best_of" (defArgs s_best_of) (defBody s_best_of) (defScope s_best_of) .none kV_best_of dc_best_of pm_best_of an_best_of cd_best_of ct_best_of), sl_best_of⟩)
    (c_best_of : PySem.W.codeIn K cd_best_of "best_of" = true)
    (k_best_of : PySem.W.keepIn K (.ref f_best_of) = true)
    (a_around_k08 : PySem.W.nsIn K mainGlobals "around" = some (some (.ref f_around_k08)))
    (l_around_k08 : K.lookup f_around_k08 = some ⟨oc_around_k08, od_around_k08, .func (PySem.W.fnOf "around" "around" (defArgs s_around_k08) (defBody s_around_k08) (defScope s_around_k08) .none kV_around_k08 dc_around_k08 pm_around_k08 an_around_k08 cd_around_k08 ct_around_k08), sl_around_k08⟩)
    (c_around_k08 : PySem.W.codeIn K cd_around_k08 "around" = true)
    (k_around_k08 : PySem.W.keepIn K (.ref f_around_k08) = true)
    (a_Best_init : PySem.W.findIn K (.ref C_Best) "__init__" = some (some (.ref f_Best_init)))
    (i_Best_init : PySem.W.isFn K (.ref f_Best_init) = true)
    (l_Best_init : K.lookup f_Best_init = some ⟨oc_Best_init, od_Best_init, .func (PySem.W.fnOf "__init__" "Best.__init__" (defArgs s_Best_init) (defBody s_Best_init) (defScope s_Best_init) .none kV_Best_init dc_Best_init pm_Best_init an_Best_init cd_Best_init ct_Best_init), sl_Best_init⟩)
    (c_Best_init : PySem.W.codeIn K cd_Best_init "Best.__init__" = true)
    (k_Best_init : PySem.W.keepIn K (.ref f_Best_init) = true)
    (a_best_k08 : PySem.W.nsIn K mainGlobals "best" = some (some (.ref f_best_k08)))
    (l_best_k08 : K.lookup f_best_k08 = some ⟨oc_best_k08, od_best_k08, .func (PySem.W.fnOf "best" "best" (defArgs s_best_k08) (defBody s_best_k08) (defScope s_best_k08) .none kV_best_k08 dc_best_k08 pm_best_k08 an_best_k08 cd_best_k08 ct_best_k08), sl_best_k08⟩)
    (c_best_k08 : PySem.W.codeIn K cd_best_k08 "best" = true)
    (k_best_k08 : PySem.W.keepIn K (.ref f_best_k08) = true)
    (a_Exact_init : PySem.W.findIn K (.ref C_Exact) "__init__" = some (some (.ref f_Exact_init)))
    (i_Exact_init : PySem.W.isFn K (.ref f_Exact_init) = true)
    (l_Exact_init : K.lookup f_Exact_init = some ⟨oc_Exact_init, od_Exact_init, .func (PySem.W.fnOf "__init__" "Exact.__init__" (defArgs s_Exact_init) (defBody s_Exact_init) (defScope s_Exact_init) .none kV_Exact_init dc_Exact_init pm_Exact_init an_Exact_init cd_Exact_init ct_Exact_init), sl_Exact_init⟩)
    (c_Exact_init : PySem.W.codeIn K cd_Exact_init "Exact.__init__" = true)
    (k_Exact_init : PySem.W.keepIn K (.ref f_Exact_init) = true)
    (a_Never_init : PySem.W.findIn K (.ref C_Never) "__init__" = some (some (.ref f_Never_init)))
    (i_Never_init : PySem.W.isFn K (.ref f_Never_init) = true)
    (l_Never_init : K.lookup f_Never_init = some ⟨oc_Never_init, od_Never_init, .func (PySem.W.fnOf "__init__" "Never.__init__" (defArgs s_Never_init) (defBody s_Never_init) (defScope s_Never_init) .none kV_Never_init dc_Never_init pm_Never_init an_Never_init cd_Never_init ct_Never_init), sl_Never_init⟩)
    (c_Never_init : PySem.W.codeIn K cd_Never_init "Never.__init__" = true)
    (k_Never_init : PySem.W.keepIn K (.ref f_Never_init) = true)
    (a_asked_total_k08 : PySem.W.nsIn K mainGlobals "asked_total" = some (some (.ref f_asked_total_k08)))
    (l_asked_total_k08 : K.lookup f_asked_total_k08 = some ⟨oc_asked_total_k08, od_asked_total_k08, .func (PySem.W.fnOf "asked_total" "asked_total" (defArgs s_asked_total_k08) (defBody s_asked_total_k08) (defScope s_asked_total_k08) .none kV_asked_total_k08 dc_asked_total_k08 pm_asked_total_k08 an_asked_total_k08 cd_asked_total_k08 ct_asked_total_k08), sl_asked_total_k08⟩)
    (c_asked_total_k08 : PySem.W.codeIn K cd_asked_total_k08 "asked_total" = true)
    (k_asked_total_k08 : PySem.W.keepIn K (.ref f_asked_total_k08) = true)
    (a_exact_k08 : PySem.W.nsIn K mainGlobals "exact" = some (some (.ref f_exact_k08)))
    (l_exact_k08 : K.lookup f_exact_k08 = some ⟨oc_exact_k08, od_exact_k08, .func (PySem.W.fnOf "exact" "exact" (defArgs s_exact_k08) (defBody s_exact_k08) (defScope s_exact_k08) .none kV_exact_k08 dc_exact_k08 pm_exact_k08 an_exact_k08 cd_exact_k08 ct_exact_k08), sl_exact_k08⟩)
    (c_exact_k08 : PySem.W.codeIn K cd_exact_k08 "exact" = true)
    (k_exact_k08 : PySem.W.keepIn K (.ref f_exact_k08) = true)
    (a_how_many_k08 : PySem.W.nsIn K mainGlobals "how_many" = some (some (.ref f_how_many_k08)))
    (l_how_many_k08 : K.lookup f_how_many_k08 = some ⟨oc_how_many_k08, od_how_many_k08, .func (PySem.W.fnOf "how_many" "how_many" (defArgs s_how_many_k08) (defBody s_how_many_k08) (defScope s_how_many_k08) .none kV_how_many_k08 dc_how_many_k08 pm_how_many_k08 an_how_many_k08 cd_how_many_k08 ct_how_many_k08), sl_how_many_k08⟩)
    (c_how_many_k08 : PySem.W.codeIn K cd_how_many_k08 "how_many" = true)
    (k_how_many_k08 : PySem.W.keepIn K (.ref f_how_many_k08) = true)
    (a_Several_init : PySem.W.findIn K (.ref C_Several) "__init__" = some (some (.ref f_Several_init)))
    (i_Several_init : PySem.W.isFn K (.ref f_Several_init) = true)
    (l_Several_init : K.lookup f_Several_init = some ⟨oc_Several_init, od_Several_init, .func (PySem.W.fnOf "__init__" "Several.__init__" (defArgs s_Several_init) (defBody s_Several_init) (defScope s_Several_init) .none kV_Several_init dc_Several_init pm_Several_init an_Several_init cd_Several_init ct_Several_init), sl_Several_init⟩)
    (c_Several_init : PySem.W.codeIn K cd_Several_init "Several.__init__" = true)
    (k_Several_init : PySem.W.keepIn K (.ref f_Several_init) = true)
    (a_added : PySem.W.nsIn K mainGlobals "added" = some (some (.ref f_added)))
    (l_added : K.lookup f_added = some ⟨oc_added, od_added, .func (PySem.W.fnOf "added" "added" (defArgs s_added) (defBody s_added) (defScope s_added) .none kV_added dc_added pm_added an_added cd_added ct_added), sl_added⟩)
    (c_added : PySem.W.codeIn K cd_added "added" = true)
    (k_added : PySem.W.keepIn K (.ref f_added) = true)
    (a_asked_many_k08 : PySem.W.nsIn K mainGlobals "asked_many" = some (some (.ref f_asked_many_k08)))
    (l_asked_many_k08 : K.lookup f_asked_many_k08 = some ⟨oc_asked_many_k08, od_asked_many_k08, .func (PySem.W.fnOf "asked_many" "asked_many" (defArgs s_asked_many_k08) (defBody s_asked_many_k08) (defScope s_asked_many_k08) .none kV_asked_many_k08 dc_asked_many_k08 pm_asked_many_k08 an_asked_many_k08 cd_asked_many_k08 ct_asked_many_k08), sl_asked_many_k08⟩)
    (c_asked_many_k08 : PySem.W.codeIn K cd_asked_many_k08 "asked_many" = true)
    (k_asked_many_k08 : PySem.W.keepIn K (.ref f_asked_many_k08) = true)
    (a_bounds : PySem.W.nsIn K mainGlobals "bounds" = some (some (.ref f_bounds)))
    (l_bounds : K.lookup f_bounds = some ⟨oc_bounds, od_bounds, .func (PySem.W.fnOf "bounds" "bounds" (defArgs s_bounds) (defBody s_bounds) (defScope s_bounds) .none kV_bounds dc_bounds pm_bounds an_bounds cd_bounds ct_bounds), sl_bounds⟩)
    (c_bounds : PySem.W.codeIn K cd_bounds "bounds" = true)
    (k_bounds : PySem.W.keepIn K (.ref f_bounds) = true)
    (a_stretches_of : PySem.W.nsIn K mainGlobals "stretches_of" = some (some (.ref f_stretches_of)))
    (l_stretches_of : K.lookup f_stretches_of = some ⟨oc_stretches_of, od_stretches_of, .func (PySem.W.fnOf "stretches_of" "stretches_of" (defArgs s_stretches_of) (defBody s_stretches_of) (defScope s_stretches_of) .none kV_stretches_of dc_stretches_of pm_stretches_of an_stretches_of cd_stretches_of ct_stretches_of), sl_stretches_of⟩)
    (c_stretches_of : PySem.W.codeIn K cd_stretches_of "stretches_of" = true)
    (k_stretches_of : PySem.W.keepIn K (.ref f_stretches_of) = true)
    (a_several_k08 : PySem.W.nsIn K mainGlobals "several" = some (some (.ref f_several_k08)))
    (l_several_k08 : K.lookup f_several_k08 = some ⟨oc_several_k08, od_several_k08, .func (PySem.W.fnOf "several" "several" (defArgs s_several_k08) (defBody s_several_k08) (defScope s_several_k08) .none kV_several_k08 dc_several_k08 pm_several_k08 an_several_k08 cd_several_k08 ct_several_k08), sl_several_k08⟩)
    (c_several_k08 : PySem.W.codeIn K cd_several_k08 "several" = true)
    (k_several_k08 : PySem.W.keepIn K (.ref f_several_k08) = true)
    (a_Steep_init : PySem.W.findIn K (.ref C_Steep) "__init__" = some (some (.ref f_Steep_init)))
    (i_Steep_init : PySem.W.isFn K (.ref f_Steep_init) = true)
    (l_Steep_init : K.lookup f_Steep_init = some ⟨oc_Steep_init, od_Steep_init, .func (PySem.W.fnOf "__init__" "Steep.__init__" (defArgs s_Steep_init) (defBody s_Steep_init) (defScope s_Steep_init) .none kV_Steep_init dc_Steep_init pm_Steep_init an_Steep_init cd_Steep_init ct_Steep_init), sl_Steep_init⟩)
    (c_Steep_init : PySem.W.codeIn K cd_Steep_init "Steep.__init__" = true)
    (k_Steep_init : PySem.W.keepIn K (.ref f_Steep_init) = true)
    (a_steepest_k08 : PySem.W.nsIn K mainGlobals "steepest" = some (some (.ref f_steepest_k08)))
    (l_steepest_k08 : K.lookup f_steepest_k08 = some ⟨oc_steepest_k08, od_steepest_k08, .func (PySem.W.fnOf "steepest" "steepest" (defArgs s_steepest_k08) (defBody s_steepest_k08) (defScope s_steepest_k08) .none kV_steepest_k08 dc_steepest_k08 pm_steepest_k08 an_steepest_k08 cd_steepest_k08 ct_steepest_k08), sl_steepest_k08⟩)
    (c_steepest_k08 : PySem.W.codeIn K cd_steepest_k08 "steepest" = true)
    (k_steepest_k08 : PySem.W.keepIn K (.ref f_steepest_k08) = true)
    (a_sums_k08 : PySem.W.nsIn K mainGlobals "sums" = some (some (.ref f_sums_k08)))
    (l_sums_k08 : K.lookup f_sums_k08 = some ⟨oc_sums_k08, od_sums_k08, .func (PySem.W.fnOf "sums" "sums" (defArgs s_sums_k08) (defBody s_sums_k08) (defScope s_sums_k08) .none kV_sums_k08 dc_sums_k08 pm_sums_k08 an_sums_k08 cd_sums_k08 ct_sums_k08), sl_sums_k08⟩)
    (c_sums_k08 : PySem.W.codeIn K cd_sums_k08 "sums" = true)
    (k_sums_k08 : PySem.W.keepIn K (.ref f_sums_k08) = true)
    (a_l_rows_asked_k08 : PySem.W.nsIn K mainGlobals "_law_rows_asked" = some (some (.ref f_l_rows_asked_k08)))
    (l_l_rows_asked_k08 : K.lookup f_l_rows_asked_k08 = some ⟨oc_l_rows_asked_k08, od_l_rows_asked_k08, .func (PySem.W.fnOf "_law_rows_asked" "_law_rows_asked" (defArgs s_l_rows_asked_k08) (defBody s_l_rows_asked_k08) (defScope s_l_rows_asked_k08) .none kV_l_rows_asked_k08 dc_l_rows_asked_k08 pm_l_rows_asked_k08 an_l_rows_asked_k08 cd_l_rows_asked_k08 ct_l_rows_asked_k08), sl_l_rows_asked_k08⟩)
    (c_l_rows_asked_k08 : PySem.W.codeIn K cd_l_rows_asked_k08 "_law_rows_asked" = true)
    (k_l_rows_asked_k08 : PySem.W.keepIn K (.ref f_l_rows_asked_k08) = true)
    (a_l_told_k08 : PySem.W.nsIn K mainGlobals "_law_told" = some (some (.ref f_l_told_k08)))
    (l_l_told_k08 : K.lookup f_l_told_k08 = some ⟨oc_l_told_k08, od_l_told_k08, .func (PySem.W.fnOf "_law_told" "_law_told" (defArgs s_l_told_k08) (defBody s_l_told_k08) (defScope s_l_told_k08) .none kV_l_told_k08 dc_l_told_k08 pm_l_told_k08 an_l_told_k08 cd_l_told_k08 ct_l_told_k08), sl_l_told_k08⟩)
    (c_l_told_k08 : PySem.W.codeIn K cd_l_told_k08 "_law_told" = true)
    (k_l_told_k08 : PySem.W.keepIn K (.ref f_l_told_k08) = true)
    (a_law_k08 : PySem.W.nsIn K mainGlobals "law" = some (some (.ref f_law_k08)))
    (l_law_k08 : K.lookup f_law_k08 = some ⟨oc_law_k08, od_law_k08, .func (PySem.W.fnOf "law" "law" (defArgs s_law_k08) (defBody s_law_k08) (defScope s_law_k08) .none kV_law_k08 dc_law_k08 pm_law_k08 an_law_k08 cd_law_k08 ct_law_k08), sl_law_k08⟩)
    (c_law_k08 : PySem.W.codeIn K cd_law_k08 "law" = true)
    (k_law_k08 : PySem.W.keepIn K (.ref f_law_k08) = true)
    (mk_Around : PySem.W.makesIn K C_Around = true)
    (kc_Around : PySem.W.keepIn K (.ref C_Around) = true)
    (mk_Best : PySem.W.makesIn K C_Best = true)
    (kc_Best : PySem.W.keepIn K (.ref C_Best) = true)
    (mk_Exact : PySem.W.makesIn K C_Exact = true)
    (kc_Exact : PySem.W.keepIn K (.ref C_Exact) = true)
    (mk_Never : PySem.W.makesIn K C_Never = true)
    (kc_Never : PySem.W.keepIn K (.ref C_Never) = true)
    (mk_Several : PySem.W.makesIn K C_Several = true)
    (kc_Several : PySem.W.keepIn K (.ref C_Several) = true)
    (mk_Steep : PySem.W.makesIn K C_Steep = true)
    (kc_Steep : PySem.W.keepIn K (.ref C_Steep) = true)
    (x_xn : PySem.W.specialIn K (.builtin "object.__class__") "__get__" = some (some (.builtin "getset_descriptor.__get__")))
    (x_xt : PySem.W.takesIn K (.builtin "object.__class__") = some true)
    (x_xa_Exact : PySem.W.findIn K (.ref C_Exact) "__class__" = some (some (.builtin "object.__class__")))
    (x_xm_Exact : PySem.W.mroIn K C_Exact (.type "object") = some true)
    (x_xc_Never : PySem.W.isClsIn K C_Never = true)
    (x_xy_Never : PySem.W.typeIn K (.ref C_Never) = some (.type "type"))
    (x_xs_Exact : PySem.W.subIn K (.ref C_Exact) (.ref C_Exact) = some true)
    (x_xk_Exact_Never : PySem.W.subIn K (.ref C_Exact) (.ref C_Never) = some false)
    (x_xa_Never : PySem.W.findIn K (.ref C_Never) "__class__" = some (some (.builtin "object.__class__")))
    (x_xm_Never : PySem.W.mroIn K C_Never (.type "object") = some true)
    (x_xs_Never : PySem.W.subIn K (.ref C_Never) (.ref C_Never) = some true)
    (x_xk_Never_Never : PySem.W.subIn K (.ref C_Never) (.ref C_Never) = some true)
    (x_se_b : PySem.W.subIn K (.ref C_StretchError) (.type "BaseException") = some true)
    (x_se_d : PySem.W.hasDictIn K C_StretchError = true)
    (x_se_t : PySem.W.typeIn K (.ref C_StretchError) = some (.type "type"))
    (x_ex_BadRow : PySem.W.excIn K C_BadRow [.type "ValueError", .type "Exception", .type "BaseException", .type "object"] "ValueError.__new__" = true)
    (x_kp_BadRow : PySem.W.keepIn K (.ref C_BadRow) = true)
    (x_eb_BadRow : PySem.W.subIn K (.ref C_BadRow) (.type "BaseException") = some true)
    (x_et_BadRow : PySem.W.typeIn K (.ref C_BadRow) = some (.type "type"))
    (x_eg_BadRow : PySem.W.findIn K (.ref C_BadRow) "__getattribute__" = some (some (.builtin "BaseException.__getattribute__")))
    (x_ek_BadRow : PySem.W.findIn K (.ref C_BadRow) "__getattr__" = some none)
    (x_ed_BadRow : PySem.W.hasDictIn K C_BadRow = true)
    (x_ea_BadRow : PySem.W.findIn K (.ref C_BadRow) "__class__" = some (some (.builtin "object.__class__")))
    (x_em_BadRow : PySem.W.mroIn K C_BadRow (.type "object") = some true)
    (x_ec_BadRow : PySem.W.isClsIn K C_BadRow = true)
    (x_ev_BadRow : PySem.W.subIn K (.ref C_BadRow) (.type "ValueError") = some true)
    (x_es_BadRow : PySem.W.subIn K (.ref C_BadRow) (.ref C_StretchError) = some true)
    (x_ek_BadRow_BadRow : PySem.W.subIn K (.ref C_BadRow) (.ref C_BadRow) = some true)
    (x_ek_BadRow_BadLeast : PySem.W.subIn K (.ref C_BadRow) (.ref C_BadLeast) = some false)
    (x_ek_BadRow_BadTotal : PySem.W.subIn K (.ref C_BadRow) (.ref C_BadTotal) = some false)
    (x_ek_BadRow_BadMany : PySem.W.subIn K (.ref C_BadRow) (.ref C_BadMany) = some false)
    (x_ex_BadLeast : PySem.W.excIn K C_BadLeast [.type "ValueError", .type "Exception", .type "BaseException", .type "object"] "ValueError.__new__" = true)
    (x_kp_BadLeast : PySem.W.keepIn K (.ref C_BadLeast) = true)
    (x_eb_BadLeast : PySem.W.subIn K (.ref C_BadLeast) (.type "BaseException") = some true)
    (x_et_BadLeast : PySem.W.typeIn K (.ref C_BadLeast) = some (.type "type"))
    (x_eg_BadLeast : PySem.W.findIn K (.ref C_BadLeast) "__getattribute__" = some (some (.builtin "BaseException.__getattribute__")))
    (x_ek_BadLeast : PySem.W.findIn K (.ref C_BadLeast) "__getattr__" = some none)
    (x_ed_BadLeast : PySem.W.hasDictIn K C_BadLeast = true)
    (x_ea_BadLeast : PySem.W.findIn K (.ref C_BadLeast) "__class__" = some (some (.builtin "object.__class__")))
    (x_em_BadLeast : PySem.W.mroIn K C_BadLeast (.type "object") = some true)
    (x_ec_BadLeast : PySem.W.isClsIn K C_BadLeast = true)
    (x_ev_BadLeast : PySem.W.subIn K (.ref C_BadLeast) (.type "ValueError") = some true)
    (x_es_BadLeast : PySem.W.subIn K (.ref C_BadLeast) (.ref C_StretchError) = some true)
    (x_ek_BadLeast_BadRow : PySem.W.subIn K (.ref C_BadLeast) (.ref C_BadRow) = some false)
    (x_ek_BadLeast_BadLeast : PySem.W.subIn K (.ref C_BadLeast) (.ref C_BadLeast) = some true)
    (x_ek_BadLeast_BadTotal : PySem.W.subIn K (.ref C_BadLeast) (.ref C_BadTotal) = some false)
    (x_ek_BadLeast_BadMany : PySem.W.subIn K (.ref C_BadLeast) (.ref C_BadMany) = some false)
    (x_ex_BadTotal : PySem.W.excIn K C_BadTotal [.type "ValueError", .type "Exception", .type "BaseException", .type "object"] "ValueError.__new__" = true)
    (x_kp_BadTotal : PySem.W.keepIn K (.ref C_BadTotal) = true)
    (x_eb_BadTotal : PySem.W.subIn K (.ref C_BadTotal) (.type "BaseException") = some true)
    (x_et_BadTotal : PySem.W.typeIn K (.ref C_BadTotal) = some (.type "type"))
    (x_eg_BadTotal : PySem.W.findIn K (.ref C_BadTotal) "__getattribute__" = some (some (.builtin "BaseException.__getattribute__")))
    (x_ek_BadTotal : PySem.W.findIn K (.ref C_BadTotal) "__getattr__" = some none)
    (x_ed_BadTotal : PySem.W.hasDictIn K C_BadTotal = true)
    (x_ea_BadTotal : PySem.W.findIn K (.ref C_BadTotal) "__class__" = some (some (.builtin "object.__class__")))
    (x_em_BadTotal : PySem.W.mroIn K C_BadTotal (.type "object") = some true)
    (x_ec_BadTotal : PySem.W.isClsIn K C_BadTotal = true)
    (x_ev_BadTotal : PySem.W.subIn K (.ref C_BadTotal) (.type "ValueError") = some true)
    (x_es_BadTotal : PySem.W.subIn K (.ref C_BadTotal) (.ref C_StretchError) = some true)
    (x_ek_BadTotal_BadRow : PySem.W.subIn K (.ref C_BadTotal) (.ref C_BadRow) = some false)
    (x_ek_BadTotal_BadLeast : PySem.W.subIn K (.ref C_BadTotal) (.ref C_BadLeast) = some false)
    (x_ek_BadTotal_BadTotal : PySem.W.subIn K (.ref C_BadTotal) (.ref C_BadTotal) = some true)
    (x_ek_BadTotal_BadMany : PySem.W.subIn K (.ref C_BadTotal) (.ref C_BadMany) = some false)
    (x_ex_BadMany : PySem.W.excIn K C_BadMany [.type "ValueError", .type "Exception", .type "BaseException", .type "object"] "ValueError.__new__" = true)
    (x_kp_BadMany : PySem.W.keepIn K (.ref C_BadMany) = true)
    (x_eb_BadMany : PySem.W.subIn K (.ref C_BadMany) (.type "BaseException") = some true)
    (x_et_BadMany : PySem.W.typeIn K (.ref C_BadMany) = some (.type "type"))
    (x_eg_BadMany : PySem.W.findIn K (.ref C_BadMany) "__getattribute__" = some (some (.builtin "BaseException.__getattribute__")))
    (x_ek_BadMany : PySem.W.findIn K (.ref C_BadMany) "__getattr__" = some none)
    (x_ed_BadMany : PySem.W.hasDictIn K C_BadMany = true)
    (x_ea_BadMany : PySem.W.findIn K (.ref C_BadMany) "__class__" = some (some (.builtin "object.__class__")))
    (x_em_BadMany : PySem.W.mroIn K C_BadMany (.type "object") = some true)
    (x_ec_BadMany : PySem.W.isClsIn K C_BadMany = true)
    (x_ev_BadMany : PySem.W.subIn K (.ref C_BadMany) (.type "ValueError") = some true)
    (x_es_BadMany : PySem.W.subIn K (.ref C_BadMany) (.ref C_StretchError) = some true)
    (x_ek_BadMany_BadRow : PySem.W.subIn K (.ref C_BadMany) (.ref C_BadRow) = some false)
    (x_ek_BadMany_BadLeast : PySem.W.subIn K (.ref C_BadMany) (.ref C_BadLeast) = some false)
    (x_ek_BadMany_BadTotal : PySem.W.subIn K (.ref C_BadMany) (.ref C_BadTotal) = some false)
    (x_ek_BadMany_BadMany : PySem.W.subIn K (.ref C_BadMany) (.ref C_BadMany) = some true) : Txt K mg { Around := C_Around, BadLeast := C_BadLeast, BadMany := C_BadMany, BadRow := C_BadRow, BadTotal := C_BadTotal, Best := C_Best, Exact := C_Exact, Never := C_Never, Several := C_Several, Steep := C_Steep, StretchError := C_StretchError, f_around := f_around_k08, f_best := f_best_k08, f_exact := f_exact_k08, f_how_many := f_how_many_k08, f_several := f_several_k08, f_steepest := f_steepest_k08, f_sums := f_sums_k08 } :=
  { n_ValueError := PySem.W.mg_none_of X G z_ValueError,
    n_all := PySem.W.mg_none_of X G z_all,
    n_bool := PySem.W.mg_none_of X G z_bool,
    n_enumerate := PySem.W.mg_none_of X G z_enumerate,
    n_int := PySem.W.mg_none_of X G z_int,
    n_isinstance := PySem.W.mg_none_of X G z_isinstance,
    n_len := PySem.W.mg_none_of X G z_len,
    n_list := PySem.W.mg_none_of X G z_list,
    n_max := PySem.W.mg_none_of X G z_max,
    n_min := PySem.W.mg_none_of X G z_min,
    n_range := PySem.W.mg_none_of X G z_range,
    n_sorted := PySem.W.mg_none_of X G z_sorted,
    n_sum := PySem.W.mg_none_of X G z_sum,
    k_FARTHEST := tk_FARTHEST,
    g_FARTHEST := PySem.W.mg_of X G c_FARTHEST,
    g_Around := PySem.W.mg_of X G a_Around,
    g_BadLeast := PySem.W.mg_of X G a_BadLeast,
    g_BadMany := PySem.W.mg_of X G a_BadMany,
    g_BadRow := PySem.W.mg_of X G a_BadRow,
    g_BadTotal := PySem.W.mg_of X G a_BadTotal,
    g_Best := PySem.W.mg_of X G a_Best,
    g_Exact := PySem.W.mg_of X G a_Exact,
    g_Never := PySem.W.mg_of X G a_Never,
    g_Several := PySem.W.mg_of X G a_Several,
    g_Steep := PySem.W.mg_of X G a_Steep,
    g_StretchError := PySem.W.mg_of X G a_StretchError,
    cl_Around := ⟨pg_Around, hd_Around, po_Around, sa_Around⟩,
    cl_Best := ⟨pg_Best, hd_Best, po_Best, sa_Best⟩,
    cl_Exact := ⟨pg_Exact, hd_Exact, po_Exact, sa_Exact⟩,
    cl_Never := ⟨pg_Never, hd_Never, po_Never, sa_Never⟩,
    cl_Several := ⟨pg_Several, hd_Several, po_Several, sa_Several⟩,
    cl_Steep := ⟨pg_Steep, hd_Steep, po_Steep, sa_Steep⟩,
    na_Around_first := na_Around_first,
    na_Around_lows := na_Around_lows,
    na_Around_many := na_Around_many,
    na_Around_tops := na_Around_tops,
    na_Best_first := na_Best_first,
    na_Best_lows := na_Best_lows,
    na_Best_many := na_Best_many,
    na_Exact_first := na_Exact_first,
    na_Exact_many := na_Exact_many,
    na_Never_table := na_Never_table,
    na_Several_ins := na_Several_ins,
    na_Several_outs := na_Several_outs,
    na_Several_price := na_Several_price,
    na_Several_stretches := na_Several_stretches,
    na_Steep_first := na_Steep_first,
    na_Steep_lows := na_Steep_lows,
    na_Steep_many := na_Steep_many,
    f_Around_init := f_Around_init,
    d_Around_init := _,
    F_Around_init := fun_mk (st := s_Around_init) l_Around_init c_Around_init k_Around_init,
    b_Around_init := (fun_mk (st := s_Around_init) l_Around_init c_Around_init k_Around_init).binds (ps := (["self", "first", "many", "lows", "tops"] : List Str)) fun _ _ _ _ _ _ us hl => match us, hl with | [_, _, _, _, _], _ => rfl,
    f_is_number_k08 := f_is_number_k08,
    d_is_number_k08 := _,
    F_is_number_k08 := fun_mk (st := s_is_number_k08) l_is_number_k08 c_is_number_k08 k_is_number_k08,
    b_is_number_k08 := (fun_mk (st := s_is_number_k08) l_is_number_k08 c_is_number_k08 k_is_number_k08).binds (ps := (["thing"] : List Str)) fun _ _ _ _ _ _ us hl => match us, hl with | [_], _ => rfl,
    g_is_number_k08 := PySem.W.mg_of X G a_is_number_k08,
    f_asked_least_k08 := f_asked_least_k08,
    d_asked_least_k08 := _,
    F_asked_least_k08 := fun_mk (st := s_asked_least_k08) l_asked_least_k08 c_asked_least_k08 k_asked_least_k08,
    b_asked_least_k08 := (fun_mk (st := s_asked_least_k08) l_asked_least_k08 c_asked_least_k08 k_asked_least_k08).binds (ps := (["row", "least"] : List Str)) fun _ _ _ _ _ _ us hl => match us, hl with | [_, _], _ => rfl,
    g_asked_least_k08 := PySem.W.mg_of X G a_asked_least_k08,
    f_asked_row_k08 := f_asked_row_k08,
    d_asked_row_k08 := _,
    F_asked_row_k08 := fun_mk (st := s_asked_row_k08) l_asked_row_k08 c_asked_row_k08 k_asked_row_k08,
    b_asked_row_k08 := (fun_mk (st := s_asked_row_k08) l_asked_row_k08 c_asked_row_k08 k_asked_row_k08).binds (ps := (["row"] : List Str)) fun _ _ _ _ _ _ us hl => match us, hl with | [_], _ => rfl,
    g_asked_row_k08 := PySem.W.mg_of X G a_asked_row_k08,
    f_summed := f_summed,
    d_summed := _,
    F_summed := fun_mk (st := s_summed) l_summed c_summed k_summed,
    b_summed := (fun_mk (st := s_summed) l_summed c_summed k_summed).binds (ps := (["row"] : List Str)) fun _ _ _ _ _ _ us hl => match us, hl with | [_], _ => rfl,
    g_summed := PySem.W.mg_of X G a_summed,
    f_best_of := f_best_of,
    d_best_of := _,
    F_best_of := fun_mk (st := s_best_of) l_best_of c_best_of k_best_of,
    b_best_of := (fun_mk (st := s_best_of) l_best_of c_best_of k_best_of).binds (ps := (["row", "least"] : List Str)) fun _ _ _ _ _ _ us hl => match us, hl with | [_, _], _ => rfl,
    g_best_of := PySem.W.mg_of X G a_best_of,
    f_around_k08 := f_around_k08,
    d_around_k08 := _,
    F_around_k08 := fun_mk (st := s_around_k08) l_around_k08 c_around_k08 k_around_k08,
    b_around_k08 := (fun_mk (st := s_around_k08) l_around_k08 c_around_k08 k_around_k08).binds (ps := (["row"] : List Str)) fun _ _ _ _ _ _ us hl => match us, hl with | [_], _ => rfl,
    g_around_k08 := PySem.W.mg_of X G a_around_k08,
    f_Best_init := f_Best_init,
    d_Best_init := _,
    F_Best_init := fun_mk (st := s_Best_init) l_Best_init c_Best_init k_Best_init,
    b_Best_init := (fun_mk (st := s_Best_init) l_Best_init c_Best_init k_Best_init).binds (ps := (["self", "first", "many", "lows"] : List Str)) fun _ _ _ _ _ _ us hl => match us, hl with | [_, _, _, _], _ => rfl,
    f_best_k08 := f_best_k08,
    d_best_k08 := _,
    F_best_k08 := fun_mk (st := s_best_k08) l_best_k08 c_best_k08 k_best_k08,
    b_best_k08 := (fun_mk (st := s_best_k08) l_best_k08 c_best_k08 k_best_k08).binds (ps := (["row", "least"] : List Str)) fun _ _ _ _ _ _ us hl => match us, hl with | [_, _], _ => rfl,
    g_best_k08 := PySem.W.mg_of X G a_best_k08,
    f_Exact_init := f_Exact_init,
    d_Exact_init := _,
    F_Exact_init := fun_mk (st := s_Exact_init) l_Exact_init c_Exact_init k_Exact_init,
    b_Exact_init := (fun_mk (st := s_Exact_init) l_Exact_init c_Exact_init k_Exact_init).binds (ps := (["self", "first", "many"] : List Str)) fun _ _ _ _ _ _ us hl => match us, hl with | [_, _, _], _ => rfl,
    f_Never_init := f_Never_init,
    d_Never_init := _,
    F_Never_init := fun_mk (st := s_Never_init) l_Never_init c_Never_init k_Never_init,
    b_Never_init := (fun_mk (st := s_Never_init) l_Never_init c_Never_init k_Never_init).binds (ps := (["self", "table"] : List Str)) fun _ _ _ _ _ _ us hl => match us, hl with | [_, _], _ => rfl,
    f_asked_total_k08 := f_asked_total_k08,
    d_asked_total_k08 := _,
    F_asked_total_k08 := fun_mk (st := s_asked_total_k08) l_asked_total_k08 c_asked_total_k08 k_asked_total_k08,
    b_asked_total_k08 := (fun_mk (st := s_asked_total_k08) l_asked_total_k08 c_asked_total_k08 k_asked_total_k08).binds (ps := (["total"] : List Str)) fun _ _ _ _ _ _ us hl => match us, hl with | [_], _ => rfl,
    g_asked_total_k08 := PySem.W.mg_of X G a_asked_total_k08,
    f_exact_k08 := f_exact_k08,
    d_exact_k08 := _,
    F_exact_k08 := fun_mk (st := s_exact_k08) l_exact_k08 c_exact_k08 k_exact_k08,
    b_exact_k08 := (fun_mk (st := s_exact_k08) l_exact_k08 c_exact_k08 k_exact_k08).binds (ps := (["row", "total"] : List Str)) fun _ _ _ _ _ _ us hl => match us, hl with | [_, _], _ => rfl,
    g_exact_k08 := PySem.W.mg_of X G a_exact_k08,
    f_how_many_k08 := f_how_many_k08,
    d_how_many_k08 := _,
    F_how_many_k08 := fun_mk (st := s_how_many_k08) l_how_many_k08 c_how_many_k08 k_how_many_k08,
    b_how_many_k08 := (fun_mk (st := s_how_many_k08) l_how_many_k08 c_how_many_k08 k_how_many_k08).binds (ps := (["row", "total"] : List Str)) fun _ _ _ _ _ _ us hl => match us, hl with | [_, _], _ => rfl,
    g_how_many_k08 := PySem.W.mg_of X G a_how_many_k08,
    f_Several_init := f_Several_init,
    d_Several_init := _,
    F_Several_init := fun_mk (st := s_Several_init) l_Several_init c_Several_init k_Several_init,
    b_Several_init := (fun_mk (st := s_Several_init) l_Several_init c_Several_init k_Several_init).binds (ps := (["self", "stretches", "price", "outs", "ins"] : List Str)) fun _ _ _ _ _ _ us hl => match us, hl with | [_, _, _, _, _], _ => rfl,
    f_added := f_added,
    d_added := _,
    F_added := fun_mk (st := s_added) l_added c_added k_added,
    b_added := (fun_mk (st := s_added) l_added c_added k_added).binds (ps := (["row", "best"] : List Str)) fun _ _ _ _ _ _ us hl => match us, hl with | [_, _], _ => rfl,
    g_added := PySem.W.mg_of X G a_added,
    f_asked_many_k08 := f_asked_many_k08,
    d_asked_many_k08 := _,
    F_asked_many_k08 := fun_mk (st := s_asked_many_k08) l_asked_many_k08 c_asked_many_k08 k_asked_many_k08,
    b_asked_many_k08 := (fun_mk (st := s_asked_many_k08) l_asked_many_k08 c_asked_many_k08 k_asked_many_k08).binds (ps := (["many"] : List Str)) fun _ _ _ _ _ _ us hl => match us, hl with | [_], _ => rfl,
    g_asked_many_k08 := PySem.W.mg_of X G a_asked_many_k08,
    f_bounds := f_bounds,
    d_bounds := _,
    F_bounds := fun_mk (st := s_bounds) l_bounds c_bounds k_bounds,
    b_bounds := (fun_mk (st := s_bounds) l_bounds c_bounds k_bounds).binds (ps := (["row", "price"] : List Str)) fun _ _ _ _ _ _ us hl => match us, hl with | [_, _], _ => rfl,
    g_bounds := PySem.W.mg_of X G a_bounds,
    f_stretches_of := f_stretches_of,
    d_stretches_of := _,
    F_stretches_of := fun_mk (st := s_stretches_of) l_stretches_of c_stretches_of k_stretches_of,
    b_stretches_of := (fun_mk (st := s_stretches_of) l_stretches_of c_stretches_of k_stretches_of).binds (ps := (["levels", "length"] : List Str)) fun _ _ _ _ _ _ us hl => match us, hl with | [_, _], _ => rfl,
    g_stretches_of := PySem.W.mg_of X G a_stretches_of,
    f_several_k08 := f_several_k08,
    d_several_k08 := _,
    F_several_k08 := fun_mk (st := s_several_k08) l_several_k08 c_several_k08 k_several_k08,
    b_several_k08 := (fun_mk (st := s_several_k08) l_several_k08 c_several_k08 k_several_k08).binds (ps := (["row", "many"] : List Str)) fun _ _ _ _ _ _ us hl => match us, hl with | [_, _], _ => rfl,
    g_several_k08 := PySem.W.mg_of X G a_several_k08,
    f_Steep_init := f_Steep_init,
    d_Steep_init := _,
    F_Steep_init := fun_mk (st := s_Steep_init) l_Steep_init c_Steep_init k_Steep_init,
    b_Steep_init := (fun_mk (st := s_Steep_init) l_Steep_init c_Steep_init k_Steep_init).binds (ps := (["self", "first", "many", "lows"] : List Str)) fun _ _ _ _ _ _ us hl => match us, hl with | [_, _, _, _], _ => rfl,
    f_steepest_k08 := f_steepest_k08,
    d_steepest_k08 := _,
    F_steepest_k08 := fun_mk (st := s_steepest_k08) l_steepest_k08 c_steepest_k08 k_steepest_k08,
    b_steepest_k08 := (fun_mk (st := s_steepest_k08) l_steepest_k08 c_steepest_k08 k_steepest_k08).binds (ps := (["row", "least"] : List Str)) fun _ _ _ _ _ _ us hl => match us, hl with | [_, _], _ => rfl,
    g_steepest_k08 := PySem.W.mg_of X G a_steepest_k08,
    f_sums_k08 := f_sums_k08,
    d_sums_k08 := _,
    F_sums_k08 := fun_mk (st := s_sums_k08) l_sums_k08 c_sums_k08 k_sums_k08,
    b_sums_k08 := (fun_mk (st := s_sums_k08) l_sums_k08 c_sums_k08 k_sums_k08).binds (ps := (["row"] : List Str)) fun _ _ _ _ _ _ us hl => match us, hl with | [_], _ => rfl,
    g_sums_k08 := PySem.W.mg_of X G a_sums_k08,
    f_l_rows_asked_k08 := f_l_rows_asked_k08,
    d_l_rows_asked_k08 := _,
    F_l_rows_asked_k08 := fun_mk (st := s_l_rows_asked_k08) l_l_rows_asked_k08 c_l_rows_asked_k08 k_l_rows_asked_k08,
    b_l_rows_asked_k08 := (fun_mk (st := s_l_rows_asked_k08) l_l_rows_asked_k08 c_l_rows_asked_k08 k_l_rows_asked_k08).binds (ps := (["_law_which", "_law_more"] : List Str)) fun _ _ _ _ _ _ us hl => match us, hl with | [_, _], _ => rfl,
    g_l_rows_asked_k08 := PySem.W.mg_of X G a_l_rows_asked_k08,
    f_l_told_k08 := f_l_told_k08,
    d_l_told_k08 := _,
    F_l_told_k08 := fun_mk (st := s_l_told_k08) l_l_told_k08 c_l_told_k08 k_l_told_k08,
    b_l_told_k08 := (fun_mk (st := s_l_told_k08) l_l_told_k08 c_l_told_k08 k_l_told_k08).binds (ps := (["_law_kind", "_law_which", "_law_more"] : List Str)) fun _ _ _ _ _ _ us hl => match us, hl with | [_, _, _], _ => rfl,
    g_l_told_k08 := PySem.W.mg_of X G a_l_told_k08,
    f_law_k08 := f_law_k08,
    d_law_k08 := _,
    F_law_k08 := fun_mk (st := s_law_k08) l_law_k08 c_law_k08 k_law_k08,
    b_law_k08 := (fun_mk (st := s_law_k08) l_law_k08 c_law_k08 k_law_k08).binds (ps := (["_law_script"] : List Str)) fun _ _ _ _ _ _ us hl => match us, hl with | [_], _ => rfl,
    g_law_k08 := PySem.W.mg_of X G a_law_k08,
    mk_Around := ⟨mk_Around, a_Around_init, i_Around_init, kc_Around⟩,
    mk_Best := ⟨mk_Best, a_Best_init, i_Best_init, kc_Best⟩,
    mk_Exact := ⟨mk_Exact, a_Exact_init, i_Exact_init, kc_Exact⟩,
    mk_Never := ⟨mk_Never, a_Never_init, i_Never_init, kc_Never⟩,
    mk_Several := ⟨mk_Several, a_Several_init, i_Several_init, kc_Several⟩,
    mk_Steep := ⟨mk_Steep, a_Steep_init, i_Steep_init, kc_Steep⟩,
    xn := x_xn,
    xt := x_xt,
    xa_Exact := x_xa_Exact,
    xm_Exact := x_xm_Exact,
    xc_Never := x_xc_Never,
    xy_Never := x_xy_Never,
    xs_Exact := x_xs_Exact,
    xk_Exact_Never := x_xk_Exact_Never,
    xa_Never := x_xa_Never,
    xm_Never := x_xm_Never,
    xs_Never := x_xs_Never,
    xk_Never_Never := x_xk_Never_Never,
    se_b := x_se_b,
    se_d := x_se_d,
    se_t := x_se_t,
    ex_BadRow := x_ex_BadRow,
    kp_BadRow := x_kp_BadRow,
    eb_BadRow := x_eb_BadRow,
    et_BadRow := x_et_BadRow,
    eg_BadRow := x_eg_BadRow,
    ek_BadRow := x_ek_BadRow,
    ed_BadRow := x_ed_BadRow,
    ea_BadRow := x_ea_BadRow,
    em_BadRow := x_em_BadRow,
    ec_BadRow := x_ec_BadRow,
    ev_BadRow := x_ev_BadRow,
    es_BadRow := x_es_BadRow,
    ek_BadRow_BadRow := x_ek_BadRow_BadRow,
    ek_BadRow_BadLeast := x_ek_BadRow_BadLeast,
    ek_BadRow_BadTotal := x_ek_BadRow_BadTotal,
    ek_BadRow_BadMany := x_ek_BadRow_BadMany,
    ex_BadLeast := x_ex_BadLeast,
    kp_BadLeast := x_kp_BadLeast,
    eb_BadLeast := x_eb_BadLeast,
    et_BadLeast := x_et_BadLeast,
    eg_BadLeast := x_eg_BadLeast,
    ek_BadLeast := x_ek_BadLeast,
    ed_BadLeast := x_ed_BadLeast,
    ea_BadLeast := x_ea_BadLeast,
    em_BadLeast := x_em_BadLeast,
    ec_BadLeast := x_ec_BadLeast,
    ev_BadLeast := x_ev_BadLeast,
    es_BadLeast := x_es_BadLeast,
    ek_BadLeast_BadRow := x_ek_BadLeast_BadRow,
    ek_BadLeast_BadLeast := x_ek_BadLeast_BadLeast,
    ek_BadLeast_BadTotal := x_ek_BadLeast_BadTotal,
    ek_BadLeast_BadMany := x_ek_BadLeast_BadMany,
    ex_BadTotal := x_ex_BadTotal,
    kp_BadTotal := x_kp_BadTotal,
    eb_BadTotal := x_eb_BadTotal,
    et_BadTotal := x_et_BadTotal,
    eg_BadTotal := x_eg_BadTotal,
    ek_BadTotal := x_ek_BadTotal,
    ed_BadTotal := x_ed_BadTotal,
    ea_BadTotal := x_ea_BadTotal,
    em_BadTotal := x_em_BadTotal,
    ec_BadTotal := x_ec_BadTotal,
    ev_BadTotal := x_ev_BadTotal,
    es_BadTotal := x_es_BadTotal,
    ek_BadTotal_BadRow := x_ek_BadTotal_BadRow,
    ek_BadTotal_BadLeast := x_ek_BadTotal_BadLeast,
    ek_BadTotal_BadTotal := x_ek_BadTotal_BadTotal,
    ek_BadTotal_BadMany := x_ek_BadTotal_BadMany,
    ex_BadMany := x_ex_BadMany,
    kp_BadMany := x_kp_BadMany,
    eb_BadMany := x_eb_BadMany,
    et_BadMany := x_et_BadMany,
    eg_BadMany := x_eg_BadMany,
    ek_BadMany := x_ek_BadMany,
    ed_BadMany := x_ed_BadMany,
    ea_BadMany := x_ea_BadMany,
    em_BadMany := x_em_BadMany,
    ec_BadMany := x_ec_BadMany,
    ev_BadMany := x_ev_BadMany,
    es_BadMany := x_es_BadMany,
    ek_BadMany_BadRow := x_ek_BadMany_BadRow,
    ek_BadMany_BadLeast := x_ek_BadMany_BadLeast,
    ek_BadMany_BadTotal := x_ek_BadMany_BadTotal,
    ek_BadMany_BadMany := x_ek_BadMany_BadMany,
    e_around := rfl,
    e_best := rfl,
    e_exact := rfl,
    e_how_many := rfl,
    e_several := rfl,
    e_steepest := rfl,
    e_sums := rfl }
theorem all_mk {l : PySem.W.OpenLaw} {w : World} {K : PySem.W.Frag} {mg : Str → Option Value} {fa : Addr} {cs : Cs} (T : Txt K mg cs) (hfa : mg "law" = some (.ref fa)) :
    ∃ fd : FuncData, (∀ (s : Shared) (v : Value), BindsTo s fd ⟨[v], []⟩ [("_law_script", v)]) ∧ ∀ base : Heap, K.In base → base.Ns mainGlobals mg → FnOk l.prog w K mg base CX0 6 fa fd (["_law_script"] : List Str) (sp_law_k08 K cs) := by
  have e := hfa.symm.trans T.g_law_k08
  cases e
  refine ⟨T.d_law_k08, fun s v => ?_, fun base _ _ => ok_law_k08 T⟩
  obtain ⟨oc, od, kV, doc, pm, an, cdv, ct, osl, e, _, _⟩ := T.F_law_k08.ex
  rw [e]
  exact .of_eq rfl
theorem walk {l : PySem.W.OpenLaw} {q : Program} {loose : List Str} {XP : (Str → Option Value) → Heap → Prop} {YP : World → Heap → Prop} {d : DefRec} {K : Params → PySem.W.Frag} (hn : l.most = some 63) (hdf : d.params.defaults = [])
    (hY : ∀ (w : World) (h : Heap), YP w h → (K w.params).In h)
    (F : ∀ (w : World) (mg : Str → Option Value) (fa : Addr) (h : Heap), (K w.params).In h → h.Ns mainGlobals mg → mg d.name = some (.ref fa) →
      ∃ fd : FuncData, (∀ (s : Shared) (u : Value), BindsTo s fd ⟨[u], []⟩ [("_law_script", u)]) ∧ ∀ base : Heap, (K w.params).In base → base.Ns mainGlobals mg → FnOk l.prog w (K w.params) mg base CX0 6 fa fd (["_law_script"] : List Str) (spLaw (K w.params))) :
    PySem.W.WalkO q loose XP YP l.row.toRowW d [] (fun f vs => PySem.call f vs) :=
  L2.walk_of (n := 63) (k := 6) (x := "_law_script") (CX := fun _ => CX0) (sp := fun w => spLaw (K w.params)) hn (by decide) hdf ⟨rfl, by decide, by decide⟩ hY F (fun _ _ a ns hl _ hS => ⟨a, ns, rfl, hS, hl, fun _ => rfl⟩) fun _ _ _ _ _ z => z
end Bs
open PySem PySem.W PyProof.Rows
set_option maxRecDepth 100000 in
set_option maxHeartbeats 0 in
theorem PySem.Challenge.cw_beststretch_k08_refused_holds : PySem.Challenge.rw_beststretch_k08_refused.Holds := by
  w_on; o_law; k_head; (case hw => w_witness2)
  k_fill
  refine Bs.walk (l := PySem.Challenge.rw_beststretch_k08_refused) rfl rfl (fun w h Y => PySem.W.kIn_of Y) ?F
  case F =>
    intro w mg fa h KX G hmg
    refine' Bs.all_mk (Bs.txt_mk KX G ?z_ValueError ?z_all ?z_bool ?z_enumerate ?z_int ?z_isinstance ?z_len ?z_list ?z_max ?z_min ?z_range ?z_sorted ?z_sum ?c_FARTHEST ?a_Around ?a_BadLeast ?a_BadMany ?a_BadRow ?a_BadTotal ?a_Best ?a_Exact ?a_Never ?a_Several ?a_Steep ?a_StretchError ?pg_Around ?hd_Around ?po_Around ?sa_Around ?pg_Best ?hd_Best ?po_Best ?sa_Best ?pg_Exact ?hd_Exact ?po_Exact ?sa_Exact ?pg_Never ?hd_Never ?po_Never ?sa_Never ?pg_Several ?hd_Several ?po_Several ?sa_Several ?pg_Steep ?hd_Steep ?po_Steep ?sa_Steep ?na_Around_first ?na_Around_lows ?na_Around_many ?na_Around_tops ?na_Best_first ?na_Best_lows ?na_Best_many ?na_Exact_first ?na_Exact_many ?na_Never_table ?na_Several_ins ?na_Several_outs ?na_Several_price ?na_Several_stretches ?na_Steep_first ?na_Steep_lows ?na_Steep_many ?a_Around_init ?i_Around_init ?l_Around_init ?c_Around_init ?k_Around_init ?a_is_number_k08 ?l_is_number_k08 ?c_is_number_k08 ?k_is_number_k08 ?a_asked_least_k08 ?l_asked_least_k08 ?c_asked_least_k08 ?k_asked_least_k08 ?a_asked_row_k08 ?l_asked_row_k08 ?c_asked_row_k08 ?k_asked_row_k08 ?a_summed ?l_summed ?c_summed ?k_summed ?a_best_of ?l_best_of ?c_best_of ?k_best_of ?a_around_k08 ?l_around_k08 ?c_around_k08 ?k_around_k08 ?a_Best_init ?i_Best_init ?l_Best_init ?c_Best_init ?k_Best_init ?a_best_k08 ?l_best_k08 ?c_best_k08 ?k_best_k08 ?a_Exact_init ?i_Exact_init ?l_Exact_init ?c_Exact_init ?k_Exact_init ?a_Never_init ?i_Never_init ?l_Never_init ?c_Never_init ?k_Never_init ?a_asked_total_k08 ?l_asked_total_k08 ?c_asked_total_k08 ?k_asked_total_k08 ?a_exact_k08 ?l_exact_k08 ?c_exact_k08 ?k_exact_k08 ?a_how_many_k08 ?l_how_many_k08 ?c_how_many_k08 ?k_how_many_k08 ?a_Several_init ?i_Several_init ?l_Several_init ?c_Several_init ?k_Several_init ?a_added ?l_added ?c_added ?k_added ?a_asked_many_k08 ?l_asked_many_k08 ?c_asked_many_k08 ?k_asked_many_k08 ?a_bounds ?l_bounds ?c_bounds ?k_bounds ?a_stretches_of ?l_stretches_of ?c_stretches_of ?k_stretches_of ?a_several_k08 ?l_several_k08 ?c_several_k08 ?k_several_k08 ?a_Steep_init ?i_Steep_init ?l_Steep_init ?c_Steep_init ?k_Steep_init ?a_steepest_k08 ?l_steepest_k08 ?c_steepest_k08 ?k_steepest_k08 ?a_sums_k08 ?l_sums_k08 ?c_sums_k08 ?k_sums_k08 ?a_l_rows_asked_k08 ?l_l_rows_asked_k08 ?c_l_rows_asked_k08 ?k_l_rows_asked_k08 ?a_l_told_k08 ?l_l_told_k08 ?c_l_told_k08 ?k_l_told_k08 ?a_law_k08 ?l_law_k08 ?c_law_k08 ?k_law_k08 ?mk_Around ?kc_Around ?mk_Best ?kc_Best ?mk_Exact ?kc_Exact ?mk_Never ?kc_Never ?mk_Several ?kc_Several ?mk_Steep ?kc_Steep ?x_xn ?x_xt ?x_xa_Exact ?x_xm_Exact ?x_xc_Never ?x_xy_Never ?x_xs_Exact ?x_xk_Exact_Never ?x_xa_Never ?x_xm_Never ?x_xs_Never ?x_xk_Never_Never ?x_se_b ?x_se_d ?x_se_t ?x_ex_BadRow ?x_kp_BadRow ?x_eb_BadRow ?x_et_BadRow ?x_eg_BadRow ?x_ek_BadRow ?x_ed_BadRow ?x_ea_BadRow ?x_em_BadRow ?x_ec_BadRow ?x_ev_BadRow ?x_es_BadRow ?x_ek_BadRow_BadRow ?x_ek_BadRow_BadLeast ?x_ek_BadRow_BadTotal ?x_ek_BadRow_BadMany ?x_ex_BadLeast ?x_kp_BadLeast ?x_eb_BadLeast ?x_et_BadLeast ?x_eg_BadLeast ?x_ek_BadLeast ?x_ed_BadLeast ?x_ea_BadLeast ?x_em_BadLeast ?x_ec_BadLeast ?x_ev_BadLeast ?x_es_BadLeast ?x_ek_BadLeast_BadRow ?x_ek_BadLeast_BadLeast ?x_ek_BadLeast_BadTotal ?x_ek_BadLeast_BadMany ?x_ex_BadTotal ?x_kp_BadTotal ?x_eb_BadTotal ?x_et_BadTotal ?x_eg_BadTotal ?x_ek_BadTotal ?x_ed_BadTotal ?x_ea_BadTotal ?x_em_BadTotal ?x_ec_BadTotal ?x_ev_BadTotal ?x_es_BadTotal ?x_ek_BadTotal_BadRow ?x_ek_BadTotal_BadLeast ?x_ek_BadTotal_BadTotal ?x_ek_BadTotal_BadMany ?x_ex_BadMany ?x_kp_BadMany ?x_eb_BadMany ?x_et_BadMany ?x_eg_BadMany ?x_ek_BadMany ?x_ed_BadMany ?x_ea_BadMany ?x_em_BadMany ?x_ec_BadMany ?x_ev_BadMany ?x_es_BadMany ?x_ek_BadMany_BadRow ?x_ek_BadMany_BadLeast ?x_ek_BadMany_BadTotal ?x_ek_BadMany_BadMany) hmg
    (case z_ValueError => k_is)
    (case z_all => k_is)
    (case z_bool => k_is)
    (case z_enumerate => k_is)
    (case z_int => k_is)
    (case z_isinstance => k_is)
    (case z_len => k_is)
    (case z_list => k_is)
    (case z_max => k_is)
    (case z_min => k_is)
    (case z_range => k_is)
    (case z_sorted => k_is)
    (case z_sum => k_is)
    (case c_FARTHEST => k_is)
    (case a_Around => k_is)
    (case a_BadLeast => k_is)
    (case a_BadMany => k_is)
    (case a_BadRow => k_is)
    (case a_BadTotal => k_is)
    (case a_Best => k_is)
    (case a_Exact => k_is)
    (case a_Never => k_is)
    (case a_Several => k_is)
    (case a_Steep => k_is)
    (case a_StretchError => k_is)
    (case pg_Around => k_is)
    (case hd_Around => k_is)
    (case po_Around => k_is)
    (case sa_Around => k_is)
    (case pg_Best => k_is)
    (case hd_Best => k_is)
    (case po_Best => k_is)
    (case sa_Best => k_is)
    (case pg_Exact => k_is)
    (case hd_Exact => k_is)
    (case po_Exact => k_is)
    (case sa_Exact => k_is)
    (case pg_Never => k_is)
    (case hd_Never => k_is)
    (case po_Never => k_is)
    (case sa_Never => k_is)
    (case pg_Several => k_is)
    (case hd_Several => k_is)
    (case po_Several => k_is)
    (case sa_Several => k_is)
    (case pg_Steep => k_is)
    (case hd_Steep => k_is)
    (case po_Steep => k_is)
    (case sa_Steep => k_is)
    (case na_Around_first => k_is)
    (case na_Around_lows => k_is)
    (case na_Around_many => k_is)
    (case na_Around_tops => k_is)
    (case na_Best_first => k_is)
    (case na_Best_lows => k_is)
    (case na_Best_many => k_is)
    (case na_Exact_first => k_is)
    (case na_Exact_many => k_is)
    (case na_Never_table => k_is)
    (case na_Several_ins => k_is)
    (case na_Several_outs => k_is)
    (case na_Several_price => k_is)
    (case na_Several_stretches => k_is)
    (case na_Steep_first => k_is)
    (case na_Steep_lows => k_is)
    (case na_Steep_many => k_is)
    (case a_Around_init => k_is)
    (case i_Around_init => k_is)
    (case l_Around_init => k_is)
    (case c_Around_init => k_is)
    (case k_Around_init => k_is)
    (case a_is_number_k08 => k_is)
    (case l_is_number_k08 => k_is)
    (case c_is_number_k08 => k_is)
    (case k_is_number_k08 => k_is)
    (case a_asked_least_k08 => k_is)
    (case l_asked_least_k08 => k_is)
    (case c_asked_least_k08 => k_is)
    (case k_asked_least_k08 => k_is)
    (case a_asked_row_k08 => k_is)
    (case l_asked_row_k08 => k_is)
    (case c_asked_row_k08 => k_is)
    (case k_asked_row_k08 => k_is)
    (case a_summed => k_is)
    (case l_summed => k_is)
    (case c_summed => k_is)
    (case k_summed => k_is)
    (case a_best_of => k_is)
    (case l_best_of => k_is)
    (case c_best_of => k_is)
    (case k_best_of => k_is)
    (case a_around_k08 => k_is)
    (case l_around_k08 => k_is)
    (case c_around_k08 => k_is)
    (case k_around_k08 => k_is)
    (case a_Best_init => k_is)
    (case i_Best_init => k_is)
    (case l_Best_init => k_is)
    (case c_Best_init => k_is)
    (case k_Best_init => k_is)
    (case a_best_k08 => k_is)
    (case l_best_k08 => k_is)
    (case c_best_k08 => k_is)
    (case k_best_k08 => k_is)
    (case a_Exact_init => k_is)
    (case i_Exact_init => k_is)
    (case l_Exact_init => k_is)
    (case c_Exact_init => k_is)
    (case k_Exact_init => k_is)
    (case a_Never_init => k_is)
    (case i_Never_init => k_is)
    (case l_Never_init => k_is)
    (case c_Never_init => k_is)
    (case k_Never_init => k_is)
    (case a_asked_total_k08 => k_is)
    (case l_asked_total_k08 => k_is)
    (case c_asked_total_k08 => k_is)
    (case k_asked_total_k08 => k_is)
    (case a_exact_k08 => k_is)
    (case l_exact_k08 => k_is)
    (case c_exact_k08 => k_is)
    (case k_exact_k08 => k_is)
    (case a_how_many_k08 => k_is)
    (case l_how_many_k08 => k_is)
    (case c_how_many_k08 => k_is)
    (case k_how_many_k08 => k_is)
    (case a_Several_init => k_is)
    (case i_Several_init => k_is)
    (case l_Several_init => k_is)
    (case c_Several_init => k_is)
    (case k_Several_init => k_is)
    (case a_added => k_is)
    (case l_added => k_is)
    (case c_added => k_is)
    (case k_added => k_is)
    (case a_asked_many_k08 => k_is)
    (case l_asked_many_k08 => k_is)
    (case c_asked_many_k08 => k_is)
    (case k_asked_many_k08 => k_is)
    (case a_bounds => k_is)
    (case l_bounds => k_is)
    (case c_bounds => k_is)
    (case k_bounds => k_is)
    (case a_stretches_of => k_is)
    (case l_stretches_of => k_is)
    (case c_stretches_of => k_is)
    (case k_stretches_of => k_is)
    (case a_several_k08 => k_is)
    (case l_several_k08 => k_is)
    (case c_several_k08 => k_is)
    (case k_several_k08 => k_is)
    (case a_Steep_init => k_is)
    (case i_Steep_init => k_is)
    (case l_Steep_init => k_is)
    (case c_Steep_init => k_is)
    (case k_Steep_init => k_is)
    (case a_steepest_k08 => k_is)
    (case l_steepest_k08 => k_is)
    (case c_steepest_k08 => k_is)
    (case k_steepest_k08 => k_is)
    (case a_sums_k08 => k_is)
    (case l_sums_k08 => k_is)
    (case c_sums_k08 => k_is)
    (case k_sums_k08 => k_is)
    (case a_l_rows_asked_k08 => k_is)
    (case l_l_rows_asked_k08 => k_is)
    (case c_l_rows_asked_k08 => k_is)
    (case k_l_rows_asked_k08 => k_is)
    (case a_l_told_k08 => k_is)
    (case l_l_told_k08 => k_is)
    (case c_l_told_k08 => k_is)
    (case k_l_told_k08 => k_is)
    (case a_law_k08 => k_is)
    (case l_law_k08 => k_is)
    (case c_law_k08 => k_is)
    (case k_law_k08 => k_is)
    (case mk_Around => k_is)
    (case kc_Around => k_is)
    (case mk_Best => k_is)
    (case kc_Best => k_is)
    (case mk_Exact => k_is)
    (case kc_Exact => k_is)
    (case mk_Never => k_is)
    (case kc_Never => k_is)
    (case mk_Several => k_is)
    (case kc_Several => k_is)
    (case mk_Steep => k_is)
    (case kc_Steep => k_is)
    (case x_xn => k_is)
    (case x_xt => k_is)
    (case x_xa_Exact => k_is)
    (case x_xm_Exact => k_is)
    (case x_xc_Never => k_is)
    (case x_xy_Never => k_is)
    (case x_xs_Exact => k_is)
    (case x_xk_Exact_Never => k_is)
    (case x_xa_Never => k_is)
    (case x_xm_Never => k_is)
    (case x_xs_Never => k_is)
    (case x_xk_Never_Never => k_is)
    (case x_se_b => k_is)
    (case x_se_d => k_is)
    (case x_se_t => k_is)
    (case x_ex_BadRow => k_exc)
    (case x_kp_BadRow => k_is)
    (case x_eb_BadRow => k_is)
    (case x_et_BadRow => k_is)
    (case x_eg_BadRow => k_is)
    (case x_ek_BadRow => k_is)
    (case x_ed_BadRow => k_is)
    (case x_ea_BadRow => k_is)
    (case x_em_BadRow => k_is)
    (case x_ec_BadRow => k_is)
    (case x_ev_BadRow => k_is)
    (case x_es_BadRow => k_is)
    (case x_ek_BadRow_BadRow => k_is)
    (case x_ek_BadRow_BadLeast => k_is)
    (case x_ek_BadRow_BadTotal => k_is)
    (case x_ek_BadRow_BadMany => k_is)
    (case x_ex_BadLeast => k_exc)
    (case x_kp_BadLeast => k_is)
    (case x_eb_BadLeast => k_is)
    (case x_et_BadLeast => k_is)
    (case x_eg_BadLeast => k_is)
    (case x_ek_BadLeast => k_is)
    (case x_ed_BadLeast => k_is)
    (case x_ea_BadLeast => k_is)
    (case x_em_BadLeast => k_is)
    (case x_ec_BadLeast => k_is)
    (case x_ev_BadLeast => k_is)
    (case x_es_BadLeast => k_is)
    (case x_ek_BadLeast_BadRow => k_is)
    (case x_ek_BadLeast_BadLeast => k_is)
    (case x_ek_BadLeast_BadTotal => k_is)
    (case x_ek_BadLeast_BadMany => k_is)
    (case x_ex_BadTotal => k_exc)
    (case x_kp_BadTotal => k_is)
    (case x_eb_BadTotal => k_is)
    (case x_et_BadTotal => k_is)
    (case x_eg_BadTotal => k_is)
    (case x_ek_BadTotal => k_is)
    (case x_ed_BadTotal => k_is)
    (case x_ea_BadTotal => k_is)
    (case x_em_BadTotal => k_is)
    (case x_ec_BadTotal => k_is)
    (case x_ev_BadTotal => k_is)
    (case x_es_BadTotal => k_is)
    (case x_ek_BadTotal_BadRow => k_is)
    (case x_ek_BadTotal_BadLeast => k_is)
    (case x_ek_BadTotal_BadTotal => k_is)
    (case x_ek_BadTotal_BadMany => k_is)
    (case x_ex_BadMany => k_exc)
    (case x_kp_BadMany => k_is)
    (case x_eb_BadMany => k_is)
    (case x_et_BadMany => k_is)
    (case x_eg_BadMany => k_is)
    (case x_ek_BadMany => k_is)
    (case x_ed_BadMany => k_is)
    (case x_ea_BadMany => k_is)
    (case x_em_BadMany => k_is)
    (case x_ec_BadMany => k_is)
    (case x_ev_BadMany => k_is)
    (case x_es_BadMany => k_is)
    (case x_ek_BadMany_BadRow => k_is)
    (case x_ek_BadMany_BadLeast => k_is)
    (case x_ek_BadMany_BadTotal => k_is)
    (case x_ek_BadMany_BadMany => k_is)
