import PyProof.Rows.All
import Wide.All
import OpenK.AllK
import Wide.FinOn
import HandS.ForMost
import HandS.Walk
import HandS.Style
import HandS.IsInst
import HandS.RevRange
import HandS.Conv
import HandS.SortInts
import PySem.Challenge.RW_beststretch_k05_sums
set_option Elab.async false
set_option linter.all false
set_option maxRecDepth 100000
set_option maxHeartbeats 4000000
namespace Bs
open PySem L2

/-! ### operators by name -/
def rAddI : R2 := rI0 fun i j => .int (i + j)
def rSubI : R2 := rI0 fun i j => .int (i - j)
def rMulI : R2 := rI CMul fun i j => .int (i * j)
def rModI : R2 := rI (fun _ j => 0 < j) fun i j => .int (i % j)
def rDivI : R2 := rI CDiv fun i j => .int (i / j)
def rPowI : R2 := rI CPow fun i j => .int (i ^ j.toNat)
def rLtI : R2 := rI0 fun i j => .bl (decide (i < j))
def rLeI : R2 := rI0 fun i j => .bl (decide (i ≤ j))
def rGtI : R2 := rI0 fun i j => .bl (decide (j < i))
def rGeI : R2 := rI0 fun i j => .bl (decide (j ≤ i))
def rNegI : V → Hp → VK → Prop := rU fun i => .int (-i)
def cLen (K : PySem.W.Frag) : List V → Hp → VK → Prop := fun xs H Q => ∃ p ys, xs = [.ref p] ∧ (SqL K H p ys ∨ SqT K H p ys) ∧ Q (.int ys.length) H
def cList (K : PySem.W.Frag) : List V → Hp → VK → Prop := fun xs H Q => ∃ p ys, xs = [.ref p] ∧ (SqL K H p ys ∨ SqT K H p ys) ∧ ∀ l, H l = none → Q (.ref l) (upd H l (.lst ys))
def cMax2 : List V → Hp → VK → Prop := fun xs H Q => ∃ i j, xs = [.int i, .int j] ∧ Q (.int (if j > i then j else i)) H
def cMin2 : List V → Hp → VK → Prop := fun xs H Q => ∃ i j, xs = [.int i, .int j] ∧ Q (.int (if j < i then j else i)) H
section
variable {X : Cx}
theorem op_addI : OpR X (binaryOp .Add) rAddI := op_add
theorem op_subI : OpR X (binaryOp .Sub) rSubI := op_sub
theorem op_mulI : OpR X (binaryOp .Mult) rMulI := op_mul
theorem op_modI : OpR X (binaryOp .Mod) rModI := op_mod
theorem op_divI : OpR X (binaryOp .FloorDiv) rDivI := op_fdiv
theorem op_powI : OpR X (binaryOp .Pow) rPowI := op_pow
theorem op_ltI : OpR X (compareOp .Lt) rLtI := op_lt
theorem op_leI : OpR X (compareOp .LtE) rLeI := op_le
theorem op_gtI : OpR X (compareOp .Gt) rGtI := op_gt
theorem op_geI : OpR X (compareOp .GtE) rGeI := op_ge
theorem un_negI : UnR X (unaryOp .USub) rNegI := un_neg
theorem c_len : CallR X (.builtin "len") (cLen X.K) := call_len_seq
theorem c_list : CallR X (.type "list") (cList X.K) := call_list_of
theorem c_max2 (hc : X.calm = true) : CallR X (.builtin "max") cMax2 := call_max2 hc
theorem c_min2 (hc : X.calm = true) : CallR X (.builtin "min") cMin2 := call_min2 hc
/-- one of two readings -/
def tAlt (t u : TE) : TE := fun σ H Q => t σ H Q ∨ u σ H Q
theorem pe_alt {e : Expr} {t u : TE} (h1 : PE X e t) (h2 : PE X e u) : PE X e (tAlt t u) :=
  ⟨fun pins s σ H Q I h => h.elim (fun q => h1.run pins s σ H Q I q) fun q => h2.run pins s σ H Q I q⟩
end

/-! ### heaps -/
section
variable {H H0 H1 H2 : Hp} {a p : Addr} {o o' : HO} {K : PySem.W.Frag} {xs : List V}
theorem same_new (s : Same H0 H) (n : H p = none) : Same H0 (upd H p o) := fun b u e => by
  have := s b u e
  rw [upd_ne (ne_of_none this n)]
  exact this
theorem same_mut (s : Same H0 H) (n : H0 p = none) : Same H0 (upd H p o) := fun b u e => by
  rw [upd_ne (ne_of_none e n)]
  exact s b u e
theorem same_new' (n : H p = none) (s : Same H0 H) : Same H0 (upd H p o) := same_new s n
theorem same_mut' (n : H0 p = none) (s : Same H0 H) : Same H0 (upd H p o) := same_mut s n
theorem same_r (s : Same H1 H2) (t : Same H0 H1) : Same H0 H2 := t.trans s
theorem at_new (h : H a = some o) (n : H p = none) : upd H p o' a = some o := (upd_ne (ne_of_none h n)).trans h
theorem at_new' (n : H p = none) (h : H a = some o) : upd H p o' a = some o := at_new h n
theorem at_mut (d : a ≠ p) (h : H a = some o) : upd H p o' a = some o := (upd_ne d).trans h
theorem at_same (s : Same H0 H) (h : H0 a = some o) : H a = some o := s a o h
theorem free_of (s : Same H0 H) (h : H p = none) : H0 p = none := s.free h
theorem ne_old (n : H p = none) (h : H a = some o) : a ≠ p := ne_of_none h n
theorem sq_same (h : SqL K H0 a xs) (s : Same H0 H) : SqL K H a xs := s.seq h
theorem sqt_same (h : SqT K H0 a xs) (s : Same H0 H) : SqT K H a xs := by
  rcases h with (h | ⟨o, h⟩) | h
  · exact .inl (.inl (s _ _ h))
  · exact .inl (.inr ⟨o, s _ _ h⟩)
  · exact .inr h
theorem free_of' (h : H p = none) (s : Same H0 H) : H0 p = none := s.free h
theorem free_upd (n : H a = none) (d : a ≠ p) : upd H p o a = none := (upd_ne d).trans n
end

/-! ### what a def hands back -/
/-- a value, the objects as they were -/
def RetV (H : Hp) (Q : VK) (v : V) : Prop := ∀ H', Same H H' → Q v H'
/-- a new list of ints -/
def RetI (H : Hp) (Q : VK) (ns : List Int) : Prop := ∀ p H', H p = none → Same H H' → H' p = some (.lst (ns.map V.int)) → Q (.ref p) H'

/-! ### what is wanted behind a part, by name -/
def kBl (Q : Bool → Hp → Prop) : VK := fun x H => ∃ k, x = .bl k ∧ Q k H
def kNot (Q : Bool → Hp → Prop) : Bool → Hp → Prop := fun c H => Q (!c) H
def kAnd (u : TT) (σ : L2.St) (Q : Bool → Hp → Prop) : Bool → Hp → Prop := fun c H => if c = true then u σ H Q else Q false H
def kOr (u : TT) (σ : L2.St) (Q : Bool → Hp → Prop) : Bool → Hp → Prop := fun c H => if c = true then Q true H else u σ H Q
def kAndV (u : TE) (σ : L2.St) (Q : VK) : VK := fun x H => ∃ c, x = .bl c ∧ if c = true then u σ H Q else Q (.bl false) H
def kOrV (u : TE) (σ : L2.St) (Q : VK) : VK := fun x H => ∃ c, x = .bl c ∧ if c = true then Q (.bl true) H else u σ H Q
def kNotV (Q : VK) : VK := fun x H => ∃ c, x = .bl c ∧ Q (.bl (!c)) H
def kIfS (t u : TS) (D : Ends) (σ : L2.St) : Bool → Hp → Prop := fun b H => if b = true then t D σ H else u D σ H
def kIfE (t u : TE) (σ : L2.St) (Q : VK) : Bool → Hp → Prop := fun b H => if b = true then t σ H Q else u σ H Q
def kSet (i : Nat) (D : Ends) (σ : L2.St) : VK := fun v H => D.nx (σ.set i (some v)) H
def kAsg (g : TG) (D : Ends) (σ : L2.St) : VK := fun v H => g v σ H D.nx
def kDrop (D : Ends) (σ : L2.St) : VK := fun _ H => D.nx σ H
def kCall (sp : Sp) (dvs : List V) (E : XK) (Q : VK) : List V → Hp → Prop := fun vs H => sp (vs ++ dvs) H Q E
def kCB (r : List V → Hp → VK → Prop) (Q : VK) : List V → Hp → Prop := fun vs H => r vs H Q
def kBM (K : PySem.W.Frag) (T : String) (r : V → List V → Hp → VK → Prop) (ta : TA) (σ : L2.St) (Q : VK) : VK := fun x H => tyV K T x H ∧ ta σ H fun xs H2 => r x xs H2 Q
def kBM0 (K : PySem.W.Frag) (T : String) (r : V → List V → Hp → VK → Prop) (Q : VK) : VK := fun x H => tyV K T x H ∧ r x [] H Q
def kFor (g : TG) (tb : TS) (D : Ends) (σ : L2.St) : It → Hp → Prop := fun J H1 => ∃ W : Nat → Nat → L2.St → Hp → Prop, (∃ m, W 0 m σ H1) ∧ ∀ i m σ H, W i m σ H →
    (J.stop i H ∧ D.nx σ H) ∨ (J.go i H ∧ ∃ N : L2.St → Hp → Prop, (∀ σ' H', N σ' H' → ∃ m', m' < m ∧ W (i + 1) m' σ' H') ∧ ∀ x H', J.yld i H x H' → g x σ H' fun σ2 H2 => tb { D with nx := N, ct := N, bk := D.nx } σ2 H2)
def kLc (g : TG) (tt : TT) (te : TE) (vs : List Nat) (σ : L2.St) (Q : VK) : It → Hp → Prop := fun J H1 => ∀ D, H1 D = none → ∃ W : Nat → Nat → Hp → Prop, (∃ m, W 0 m (upd H1 D (.lst []))) ∧ ∀ i m H, W i m H →
    (J.stop i H ∧ Q (.ref D) H) ∨ (J.go i H ∧ ∃ Nx : Hp → Prop, (∀ H', Nx H' → ∃ m', m' < m ∧ W (i + 1) m' H') ∧ ∀ x H', J.yld i H x H' → g x (wipe σ vs) H' fun σ2 H2 => wipe σ2 vs = wipe σ vs ∧ tt σ2 H2 fun b H3 =>
      if b = true then te σ2 H3 fun y H4 => ∃ acc, H4 D = some (.lst acc) ∧ acc.length < sizeLine ∧ Nx (upd H4 D (.lst (acc ++ [y]))) else Nx H3)
def kIList (K : PySem.W.Frag) (R : It → Hp → Prop) : VK := fun x H => ∃ a, x = .ref a ∧ (∃ xs, SqL K H a xs) ∧ R (Itl K a) H
def kRng1 (R : It → Hp → Prop) : List V → Hp → Prop := fun vs H1 => ∃ j : Int, vs = [.int j] ∧ -(2 ^ 62) ≤ j ∧ j < 2 ^ 62 ∧ R (Itr 0 j.toNat) H1
def kRng2 (R : It → Hp → Prop) : List V → Hp → Prop := fun vs H1 => ∃ i j : Int, vs = [.int i, .int j] ∧ (-(2 ^ 62) ≤ i ∧ i < 2 ^ 62 ∧ -(2 ^ 62) ≤ j ∧ j < 2 ^ 62) ∧ R (Itr i (j - i).toNat) H1
def kEnum (K : PySem.W.Frag) (R : It → Hp → Prop) : List V → Hp → Prop := fun vs H1 => ∃ a xs, vs = [.ref a] ∧ SqL K H1 a xs ∧ R (Ite K a) H1
def kLst (Q : VK) : List V → Hp → Prop := fun xs H1 => xs.length ≤ sizeLine ∧ ∀ p, H1 p = none → Q (.ref p) (upd H1 p (.lst xs))
def kTup (Q : VK) : List V → Hp → Prop := fun xs H1 => xs.length ≤ sizeLine ∧ ∀ p, H1 p = none → Q (.ref p) (upd H1 p (.tup xs))
def kFld (K : PySem.W.Frag) (f : Str) (Q : VK) : VK := fun x H1 => ∃ a C dx fs v, x = .ref a ∧ H1 a = some (.ins C dx fs) ∧ Cls K C ∧ NoAttr K C f ∧ fs.lookup f = some v ∧ Q v H1
def kPart (Q : Option Int → Hp → Prop) : VK := fun x H1 => ∃ i, x = .int i ∧ Q (some i) H1
def kChain (r' : R2) (y : V) (tc : TE) (σ : L2.St) (Q : VK) : VK := fun z H3 => ∃ k, z = .bl k ∧ (if k = true then tc σ H3 fun w' H4 => r' y w' H4 Q else Q (.bl false) H3)
def kMeth (C : Addr) (m : Str) (sp : Sp) (dvs : List V) (E : XK) (t : TA) (σ : L2.St) (Q : VK) : VK := fun x H1 => ∃ a dx fs, x = .ref a ∧ H1 a = some (.ins C dx fs) ∧ fs.lookup m = none ∧ t σ H1 fun vs H2 => sp (x :: (vs ++ dvs)) H2 Q E
def kMake (C : Addr) (sp : Sp) (dvs : List V) (E : XK) (Q : VK) : List V → Hp → Prop := fun vs H1 => ∀ x dx, H1 x = none → H1 dx = none → dx ≠ x →
    sp (.ref x :: (vs ++ dvs)) (upd (upd H1 dx (.own x)) x (.ins C dx [])) (fun v H2 => v = .non ∧ Q (.ref x) H2) E

section
variable {K : PySem.W.Frag} {σ σ' : L2.St} {H H' : Hp} {Q : VK} {QB : Bool → Hp → Prop} {ta tb te : TE} {tt uu : TT} {t u : TS} {D : Ends} {v x y : V} {i j : Int} {r : R2} {a b p : Addr} {ns ms : List Int} {xs ys vs : List V} {c d : Bool}
/-! ### expressions -/
theorem wp_var {n : Nat} (h : σ[n]? = some (some v)) (q : Q v H) : tVar n σ H Q := ⟨v, h, q⟩
theorem wp_c (q : Q v H) : tC v σ H Q := q
theorem wp_op (q : ta σ H fun x H1 => tb σ H1 fun y H2 => r x y H2 Q) : tOp r ta tb σ H Q := q
theorem wp_un {r : V → Hp → VK → Prop} (q : ta σ H fun x H1 => r x H1 Q) : tUn r ta σ H Q := q
theorem wp_addI (q : Q (.int (i + j)) H) : rAddI (.int i) (.int j) H Q := ⟨i, j, rfl, rfl, q⟩
theorem wp_subI (q : Q (.int (i - j)) H) : rSubI (.int i) (.int j) H Q := ⟨i, j, rfl, rfl, q⟩
theorem wp_mulI (h : CMul i j) (q : Q (.int (i * j)) H) : rMulI (.int i) (.int j) H Q := ⟨i, j, rfl, rfl, h, q⟩
theorem wp_modI (h : 0 < j) (q : Q (.int (i % j)) H) : rModI (.int i) (.int j) H Q := ⟨i, j, rfl, rfl, h, q⟩
theorem wp_divI (h : 0 < j ∧ j < 1073741824) (q : Q (.int (i / j)) H) : rDivI (.int i) (.int j) H Q := ⟨i, j, rfl, rfl, h, q⟩
theorem wp_negI (q : Q (.int (-i)) H) : rNegI (.int i) H Q := ⟨i, rfl, q⟩
theorem wp_ltI (q : Q (.bl (decide (i < j))) H) : rLtI (.int i) (.int j) H Q := ⟨i, j, rfl, rfl, q⟩
theorem wp_leI (q : Q (.bl (decide (i ≤ j))) H) : rLeI (.int i) (.int j) H Q := ⟨i, j, rfl, rfl, q⟩
theorem wp_gtI (q : Q (.bl (decide (j < i))) H) : rGtI (.int i) (.int j) H Q := ⟨i, j, rfl, rfl, q⟩
theorem wp_geI (q : Q (.bl (decide (j ≤ i))) H) : rGeI (.int i) (.int j) H Q := ⟨i, j, rfl, rfl, q⟩
theorem dec_int : decide (V.int i = V.int j) = decide (i = j) := by
  by_cases h : i = j
  · subst h; simp
  · rw [decide_eq_false h, decide_eq_false fun z => h (V.int.inj z)]
theorem dec_bl : decide (V.bl c = V.bl d) = decide (c = d) := by
  by_cases h : c = d
  · subst h; simp
  · rw [decide_eq_false h, decide_eq_false fun z => h (V.bl.inj z)]
theorem wp_eqI (q : Q (.bl (decide (i = j))) H) : rEq (.int i) (.int j) H Q := ⟨rfl, by rw [dec_int]; exact q⟩
theorem wp_neI (q : Q (.bl (!decide (i = j))) H) : rNe (.int i) (.int j) H Q := ⟨rfl, by rw [dec_int]; exact q⟩
theorem wp_eqB (q : Q (.bl (decide (c = d))) H) : rEq (.bl c) (.bl d) H Q := ⟨rfl, by rw [dec_bl]; exact q⟩
theorem wp_neB (q : Q (.bl (!decide (c = d))) H) : rNe (.bl c) (.bl d) H Q := ⟨rfl, by rw [dec_bl]; exact q⟩
theorem wp_isB (q : Q (.bl (decide (c = d))) H) : rIsB (.bl c) (.bl d) H Q := ⟨c, d, rfl, rfl, q⟩
theorem wp_ntB (q : Q (.bl (!decide (c = d))) H) : rNotB (.bl c) (.bl d) H Q := ⟨c, d, rfl, rfl, q⟩
/-! ### tests -/
theorem wp_test (q : te σ H (kBl QB)) : tTest te σ H QB := q
theorem wp_tB (q : te σ H (kBl QB)) : tB te σ H QB := q
theorem wp_kB (q : QB c H) : kBl QB (.bl c) H := ⟨c, rfl, q⟩
theorem wp_not (q : tt σ H (kNot QB)) : tNot tt σ H QB := q
theorem wp_kNot (q : QB (!c) H) : kNot QB c H := q
theorem wp_and (q : tt σ H (kAnd uu σ QB)) : tAnd tt uu σ H QB := q
theorem wp_or (q : tt σ H (kOr uu σ QB)) : tOr tt uu σ H QB := q
theorem wp_kAnd {c d : Bool} (h : c = true → ∀ Q' : Bool → Hp → Prop, Q' d H → uu σ H Q') (q : QB (c && d) H) : kAnd uu σ QB c H := by
  cases c with
  | true => exact h rfl QB q
  | false => exact q
theorem wp_kOr {c d : Bool} (h : c = false → ∀ Q' : Bool → Hp → Prop, Q' d H → uu σ H Q') (q : QB (c || d) H) : kOr uu σ QB c H := by
  cases c with
  | true => exact q
  | false => exact h rfl QB q
theorem wp_kAndS {c d : Bool} (h : c = true → ∀ Q' : Bool → Hp → Prop, (∀ H', Same H H' → Q' d H') → uu σ H Q') (q : ∀ H', Same H H' → QB (c && d) H') : kAnd uu σ QB c H := by
  cases c with
  | true => exact h rfl QB q
  | false => exact q H (Same.refl H)
theorem wp_kOrS {c d : Bool} (h : c = false → ∀ Q' : Bool → Hp → Prop, (∀ H', Same H H' → Q' d H') → uu σ H Q') (q : ∀ H', Same H H' → QB (c || d) H') : kOr uu σ QB c H := by
  cases c with
  | true => exact q H (Same.refl H)
  | false => exact h rfl QB q
theorem wp_andV (q : ta σ H (kAndV tb σ Q)) : tAndV ta tb σ H Q := q
theorem wp_orV (q : ta σ H (kOrV tb σ Q)) : tOrV ta tb σ H Q := q
theorem wp_notV (q : ta σ H (kNotV Q)) : tNotV ta σ H Q := q
theorem wp_kNotV (q : Q (.bl (!c)) H) : kNotV Q (.bl c) H := ⟨c, rfl, q⟩
theorem wp_kAndV {c d : Bool} (h : c = true → ∀ Q' : VK, Q' (.bl d) H → tb σ H Q') (q : Q (.bl (c && d)) H) : kAndV tb σ Q (.bl c) H := by
  refine ⟨c, rfl, ?_⟩
  cases c with
  | true => exact h rfl Q q
  | false => exact q
theorem wp_kOrV {c d : Bool} (h : c = false → ∀ Q' : VK, Q' (.bl d) H → tb σ H Q') (q : Q (.bl (c || d)) H) : kOrV tb σ Q (.bl c) H := by
  refine ⟨c, rfl, ?_⟩
  cases c with
  | true => exact q
  | false => exact h rfl Q q
theorem wp_kAndVS {c d : Bool} (h : c = true → ∀ Q' : VK, (∀ H', Same H H' → Q' (.bl d) H') → tb σ H Q') (q : ∀ H', Same H H' → Q (.bl (c && d)) H') : kAndV tb σ Q (.bl c) H := by
  refine ⟨c, rfl, ?_⟩
  cases c with
  | true => exact h rfl Q q
  | false => exact q H (Same.refl H)
theorem wp_kOrVS {c d : Bool} (h : c = false → ∀ Q' : VK, (∀ H', Same H H' → Q' (.bl d) H') → tb σ H Q') (q : ∀ H', Same H H' → Q (.bl (c || d)) H') : kOrV tb σ Q (.bl c) H := by
  refine ⟨c, rfl, ?_⟩
  cases c with
  | true => exact q H (Same.refl H)
  | false => exact h rfl Q q
/-- a chain a op b op' c of pure parts -/
theorem wp_chain {r r' : R2} {tc : TE} (q : ta σ H fun x H1 => tb σ H1 fun y H2 => r x y H2 (kChain r' y tc σ Q)) : tChain r r' ta tb tc σ H Q := q
theorem wp_kChain {r' : R2} {y : V} {tc : TE} {c d : Bool} (h : c = true → ∀ Q' : VK, Q' (.bl d) H → tc σ H fun w H4 => r' y w H4 Q') (q : Q (.bl (c && d)) H) : kChain r' y tc σ Q (.bl c) H := by
  refine ⟨c, rfl, ?_⟩
  cases c with
  | true => exact h rfl Q q
  | false => exact q
theorem wp_ifE (q : tt σ H (kIfE ta tb σ Q)) : tIf tt ta tb σ H Q := q
theorem wp_kIfE (h1 : c = true → ta σ H Q) (h2 : c = false → tb σ H Q) : kIfE ta tb σ Q c H := by
  cases c with
  | true => exact h1 rfl
  | false => exact h2 rfl
/-! ### known answers -/
theorem kOr_f (q : uu σ H QB) : kOr uu σ QB false H := q
theorem kOr_nt (q : uu σ H QB) : kOr uu σ QB (!true) H := q
theorem kOr_t (q : QB true H) : kOr uu σ QB true H := q
theorem kOr_nf (q : QB true H) : kOr uu σ QB (!false) H := q
theorem kAnd_t (q : uu σ H QB) : kAnd uu σ QB true H := q
theorem kAnd_nf (q : uu σ H QB) : kAnd uu σ QB (!false) H := q
theorem kAnd_f (q : QB false H) : kAnd uu σ QB false H := q
theorem kAnd_nt (q : QB false H) : kAnd uu σ QB (!true) H := q
theorem kOrV_f (q : tb σ H Q) : kOrV tb σ Q (.bl false) H := ⟨false, rfl, q⟩
theorem kOrV_nt (q : tb σ H Q) : kOrV tb σ Q (.bl (!true)) H := ⟨false, rfl, q⟩
theorem kAndV_t (q : tb σ H Q) : kAndV tb σ Q (.bl true) H := ⟨true, rfl, q⟩
theorem kAndV_nf (q : tb σ H Q) : kAndV tb σ Q (.bl (!false)) H := ⟨true, rfl, q⟩
theorem kAndV_f (q : Q (.bl false) H) : kAndV tb σ Q (.bl false) H := ⟨false, rfl, q⟩
theorem kIfS_t (q : t D σ H) : kIfS t u D σ true H := q
theorem kIfS_nf (q : t D σ H) : kIfS t u D σ (!false) H := q
theorem kIfS_f (q : u D σ H) : kIfS t u D σ false H := q
theorem kIfS_nt (q : u D σ H) : kIfS t u D σ (!true) H := q
theorem kNotV_t (q : Q (.bl false) H) : kNotV Q (.bl true) H := ⟨true, rfl, q⟩
theorem kNotV_f (q : Q (.bl true) H) : kNotV Q (.bl false) H := ⟨false, rfl, q⟩
theorem kNot_t (q : QB false H) : kNot QB true H := q
theorem kNot_f (q : QB true H) : kNot QB false H := q
theorem kOr_not_t : (false || c) = c := by simp
/-! ### statements -/
theorem wp_seq (q : t { D with nx := u D } σ H) : tSeq t u D σ H := q
theorem wp_asgN {n : Nat} (q : te σ H (kSet n D σ)) : tAsg te (gName n) D σ H := q
theorem wp_asg {g : TG} (q : te σ H (kAsg g D σ)) : tAsg te g D σ H := q
theorem wp_kSet {n : Nat} (h : σ.set n (some v) = σ') (q : D.nx σ' H) : kSet n D σ v H := by
  show D.nx (σ.set n (some v)) H
  rw [h]
  exact q
theorem wp_kAsg {g : TG} (q : g v σ H D.nx) : kAsg g D σ v H := q
theorem wp_nx {n : L2.St → Hp → Prop} {rt : VK} {bk ct : L2.St → Hp → Prop} (q : n σ H) : Ends.nx (Ends.mk n rt bk ct) σ H := q
theorem wp_rt {n : L2.St → Hp → Prop} {rt : VK} {bk ct : L2.St → Hp → Prop} (q : rt v H) : Ends.rt (Ends.mk n rt bk ct) v H := q
theorem wp_next (q : D.nx σ H) : tNext D σ H := q
theorem wp_ret (q : te σ H D.rt) : tRet te D σ H := q
theorem wp_drop (q : te σ H (kDrop D σ)) : tDrop te D σ H := q
theorem wp_kDrop (q : D.nx σ H) : kDrop D σ v H := q
theorem wp_ifS (q : tt σ H (kIfS t u D σ)) : tIfS tt t u D σ H := q
theorem wp_kIfS (h1 : c = true → t D σ H) (h2 : c = false → u D σ H) : kIfS t u D σ c H := by
  cases c with
  | true => exact h1 rfl
  | false => exact h2 rfl
/-! ### arguments, calls -/
theorem wp_nil {Q : List V → Hp → Prop} (q : Q [] H) : tNil σ H Q := q
theorem wp_cons {Q : List V → Hp → Prop} {tr : TA} (q : te σ H fun x H1 => tr σ H1 fun xs H2 => Q (x :: xs) H2) : tCons te tr σ H Q := q
theorem wp_call {sp : Sp} {dvs : List V} {E : XK} {ta : TA} (q : ta σ H (kCall sp dvs E Q)) : tCall sp dvs E ta σ H Q := q
theorem wp_kCall {sp : Sp} {E : XK} (q : sp vs H Q E) : kCall sp [] E Q vs H := by
  show sp (vs ++ []) H Q E
  rw [List.append_nil]
  exact q
theorem wp_tCB {r : List V → Hp → VK → Prop} {ta : TA} (q : ta σ H (kCB r Q)) : tCB r ta σ H Q := q
theorem wp_kCB {r : List V → Hp → VK → Prop} (q : r vs H Q) : kCB r Q vs H := q
theorem wp_len (h : SqL K H a xs) (q : Q (.int xs.length) H) : cLen K [.ref a] H Q := ⟨a, xs, rfl, .inl h, q⟩
theorem wp_lenI (h : SqL K H a (ns.map V.int)) (q : Q (.int ns.length) H) : cLen K [.ref a] H Q := wp_len h (by rw [List.length_map]; exact q)
theorem wp_sum (h : SqL K H a (ns.map V.int)) (q : Q (.int ns.sum) H) : rSum K [.ref a] H Q := ⟨a, ns, rfl, h, q⟩
theorem wp_list (h : SqL K H a xs) (q : ∀ l, H l = none → Q (.ref l) (upd H l (.lst xs))) : cList K [.ref a] H Q := ⟨a, xs, rfl, .inl h, q⟩
theorem wp_max2 (q : Q (.int (if j > i then j else i)) H) : cMax2 [.int i, .int j] H Q := ⟨i, j, rfl, q⟩
theorem wp_min2 (q : Q (.int (if j < i then j else i)) H) : cMin2 [.int i, .int j] H Q := ⟨i, j, rfl, q⟩
/-! ### lists -/
/-- the item at a place -/
def nth (ns : List Int) (i : Int) : Int := ns.getD i.toNat 0
theorem atI_nth (h0 : 0 ≤ i) (h1 : i < ns.length) : atI (ns.map V.int) i = some (.int (nth ns i)) := by
  have hl : i.toNat < ns.length := by omega
  unfold atI ixN nth
  rw [List.length_map, if_pos h0, if_pos h1]
  show (ns.map V.int)[i.toNat]? = _
  rw [List.getElem?_map, List.getD_eq_getElem?_getD, List.getElem?_eq_getElem hl]
  rfl
theorem atI_neg (h0 : i < 0) (h1 : 0 ≤ i + ns.length) : atI (ns.map V.int) i = some (.int (nth ns (i + ns.length))) := by
  have hl : (i + ns.length).toNat < ns.length := by omega
  unfold atI ixN nth
  rw [List.length_map, if_neg (by omega), if_pos (by omega)]
  show (ns.map V.int)[(i + ns.length).toNat]? = _
  rw [List.getElem?_map, List.getD_eq_getElem?_getD, List.getElem?_eq_getElem hl]
  rfl
theorem wp_ixL (h : SqL K H a (ns.map V.int)) (h0 : 0 ≤ i) (h1 : i < ns.length) (q : Q (.int (nth ns i)) H) : rIxL K (.ref a) (.int i) H Q :=
  ⟨a, _, i, _, rfl, rfl, h, atI_nth h0 h1, q⟩
theorem wp_ixN (h : SqL K H a (ns.map V.int)) (h0 : i < 0) (h1 : 0 ≤ i + ns.length) (q : Q (.int (nth ns (i + ns.length))) H) : rIxL K (.ref a) (.int i) H Q :=
  ⟨a, _, i, _, rfl, rfl, h, atI_neg h0 h1, q⟩
theorem wp_lst {ta : TA} (q : ta σ H (kLst Q)) : tLst ta σ H Q := q
theorem wp_tup {ta : TA} (q : ta σ H (kTup Q)) : tTup ta σ H Q := q
theorem sz (n : Nat) (h : n ≤ 100000) : n ≤ sizeLine := Nat.le_trans h (by decide)
theorem szl {n : Nat} (h : n < 100000) : n < sizeLine := Nat.lt_of_lt_of_le h (by decide)
theorem wp_lst0 (q : ∀ p, H p = none → Q (.ref p) (upd H p (.lst (([] : List Int).map V.int)))) : kLst Q [] H := ⟨Nat.zero_le _, q⟩
theorem wp_lst1 (q : ∀ p, H p = none → Q (.ref p) (upd H p (.lst (([i] : List Int).map V.int)))) : kLst Q [.int i] H := ⟨sz _ (by decide : 1 ≤ _), q⟩
theorem wp_lst2 (q : ∀ p, H p = none → Q (.ref p) (upd H p (.lst (([i, j] : List Int).map V.int)))) : kLst Q [.int i, .int j] H := ⟨sz _ (by decide : 2 ≤ _), q⟩
theorem wp_lst3 {k : Int} (q : ∀ p, H p = none → Q (.ref p) (upd H p (.lst (([i, j, k] : List Int).map V.int)))) : kLst Q [.int i, .int j, .int k] H := ⟨sz _ (by decide : 3 ≤ _), q⟩
theorem wp_lst4 {k l : Int} (q : ∀ p, H p = none → Q (.ref p) (upd H p (.lst (([i, j, k, l] : List Int).map V.int)))) : kLst Q [.int i, .int j, .int k, .int l] H := ⟨sz _ (by decide : 4 ≤ _), q⟩
theorem wp_lst5 {k l m : Int} (q : ∀ p, H p = none → Q (.ref p) (upd H p (.lst (([i, j, k, l, m] : List Int).map V.int)))) : kLst Q [.int i, .int j, .int k, .int l, .int m] H := ⟨sz _ (by decide : 5 ≤ _), q⟩
theorem wp_lstR (h : xs.length ≤ 100000) (q : ∀ p, H p = none → Q (.ref p) (upd H p (.lst xs))) : kLst Q xs H := ⟨sz _ h, q⟩
theorem wp_kTup (h : xs.length ≤ 100000) (q : ∀ p, H p = none → Q (.ref p) (upd H p (.tup xs))) : kTup Q xs H := ⟨sz _ h, q⟩
theorem wp_tBM {T : String} {r : V → List V → Hp → VK → Prop} {to : TE} {ta : TA} (q : to σ H (kBM K T r ta σ Q)) : tBM K T r to ta σ H Q := q
theorem wp_tBM0 {T : String} {r : V → List V → Hp → VK → Prop} {to : TE} (q : to σ H (kBM0 K T r Q)) : tBM0 K T r to σ H Q := q
theorem wp_kBM {r : V → List V → Hp → VK → Prop} {ta : TA} (h : H a = some (.lst xs)) (q : ta σ H fun xs H2 => r (.ref a) xs H2 Q) : kBM K "list" r ta σ Q (.ref a) H :=
  ⟨.inl ⟨rfl, _, SqL.of h⟩, q⟩
theorem wp_kBM0 {r : V → List V → Hp → VK → Prop} (h : H a = some (.lst xs)) (q : r (.ref a) [] H Q) : kBM0 K "list" r Q (.ref a) H := ⟨.inl ⟨rfl, _, SqL.of h⟩, q⟩
theorem wp_appI (h : H a = some (.lst (ns.map V.int))) (hz : ns.length < 100000) (q : Q .non (upd H a (.lst ((ns ++ [i]).map V.int)))) : rAppend (.ref a) [.int i] H Q := by
  refine ⟨a, _, _, rfl, rfl, h, szl (by rw [List.length_map]; exact hz), ?_⟩
  rw [List.map_append] at q
  exact q
theorem wp_app (h : H a = some (.lst xs)) (hz : xs.length < 100000) (q : Q .non (upd H a (.lst (xs ++ [v])))) : rAppend (.ref a) [v] H Q := ⟨a, xs, v, rfl, rfl, h, szl hz, q⟩
/-! ### slices -/
theorem wp_sl {r : V → Option Int → Option Int → Hp → VK → Prop} {tl th : TO} (q : te σ H fun x H1 => tl σ H1 fun l H2 => th σ H2 fun u H3 => r x l u H3 Q) : tSl r te tl th σ H Q := q
theorem wp_part {Q : Option Int → Hp → Prop} (q : te σ H (kPart Q)) : tPart te σ H Q := q
theorem wp_kPart {Q : Option Int → Hp → Prop} (q : Q (some i) H) : kPart Q (.int i) H := ⟨i, rfl, q⟩
theorem wp_noPart {Q : Option Int → Hp → Prop} (q : Q none H) : tNoPart σ H Q := q
/-- a slice of ints -/
def cut (ns : List Int) (lo hi : Option Int) : List Int := (ns.drop (HT.sIx ns.length 0 lo)).take (HT.sIx ns.length ns.length hi - HT.sIx ns.length 0 lo)
theorem cutV_map (lo hi : Option Int) : cutV (ns.map V.int) lo hi = (cut ns lo hi).map V.int := by
  unfold cutV cut
  rw [List.length_map, List.map_take, List.map_drop]
theorem wp_slI {lo hi : Option Int} (h : SqL K H a (ns.map V.int)) (q : ∀ p, H p = none → Q (.ref p) (upd H p (.lst ((cut ns lo hi).map V.int)))) : rSlL K (.ref a) lo hi H Q :=
  ⟨a, _, rfl, h, fun p hp => by rw [cutV_map]; exact q p hp⟩
theorem wp_slR {lo hi : Option Int} (h : SqL K H a xs) (q : ∀ p, H p = none → Q (.ref p) (upd H p (.lst (cutV xs lo hi)))) : rSlL K (.ref a) lo hi H Q := ⟨a, _, rfl, h, q⟩
def kRev (K : PySem.W.Frag) (Q : VK) : VK := fun x H1 => ∃ a xs, x = .ref a ∧ SqL K H1 a xs ∧ ∀ p, H1 p = none → Q (.ref p) (upd H1 p (.lst xs.reverse))
theorem wp_rev (q : te σ H (kRev K Q)) : tRevL K te σ H Q := q
theorem wp_revI (h : SqL K H a (ns.map V.int)) (q : ∀ p, H p = none → Q (.ref p) (upd H p (.lst (ns.reverse.map V.int)))) : kRev K Q (.ref a) H :=
  ⟨a, _, rfl, h, fun p hp => by rw [← List.map_reverse]; exact q p hp⟩
theorem wp_revR (h : SqL K H a xs) (q : ∀ p, H p = none → Q (.ref p) (upd H p (.lst xs.reverse))) : kRev K Q (.ref a) H := ⟨a, _, rfl, h, q⟩
theorem wp_catI (h : H a = some (.lst (ns.map V.int))) (h' : H b = some (.lst (ms.map V.int))) (hz : ns.length + ms.length ≤ 100000) (q : ∀ p, H p = none → Q (.ref p) (upd H p (.lst ((ns ++ ms).map V.int)))) : rCat (.ref a) (.ref b) H Q :=
  ⟨a, b, _, _, rfl, rfl, h, h', sz _ (by rw [List.length_map, List.length_map]; exact hz), fun p hp => by rw [← List.map_append]; exact q p hp⟩
theorem wp_catR (h : H a = some (.lst xs)) (h' : H b = some (.lst ys)) (hz : xs.length + ys.length ≤ 100000) (q : ∀ p, H p = none → Q (.ref p) (upd H p (.lst (xs ++ ys)))) : rCat (.ref a) (.ref b) H Q :=
  ⟨a, b, _, _, rfl, rfl, h, h', sz _ hz, q⟩
/-! ### == of lists of ints -/
theorem dpAll_ints : ∀ ns : List Int, DpAll K H (ns.map V.int) (ns.map PyData.int)
  | [] => .nil
  | n :: r => .cons (.int n) (dpAll_ints r)
theorem eqvAll_ints : ∀ ns ms : List Int, PyData.eqvAll (ns.map PyData.int) (ms.map PyData.int) = decide (ns = ms)
  | [], [] => by simp [PyData.eqvAll]
  | [], _ :: _ => by simp [PyData.eqvAll]
  | _ :: _, [] => by simp [PyData.eqvAll]
  | n :: r, m :: s => by
    simp only [List.map_cons, PyData.eqvAll, PyData.eqv, eqvAll_ints r s]
    by_cases e : n = m <;> by_cases f : r = s <;> simp [e, f]
theorem canLay_ints : ∀ ns : List Int, PyData.canLayAll0 (ns.map PyData.int) = true
  | [] => by simp [PyData.canLayAll0]
  | n :: r => by simp [PyData.canLayAll0, PyData.canLay0, canLay_ints r]
theorem depth_ints : ∀ ns : List Int, PyData.depthAll (ns.map PyData.int) = 0
  | [] => by simp [PyData.depthAll]
  | n :: r => by simp [PyData.depthAll, PyData.depth, depth_ints r]
theorem shaped_ints (ns : List Int) : SeqAt.shaped (.list (ns.map PyData.int)) = true := by
  simp [SeqAt.shaped, PyData.canLay0, PyData.depth, canLay_ints, depth_ints]
theorem wp_eqL (h : SqL K H a (ns.map V.int)) (h' : SqL K H b (ms.map V.int)) (q : Q (.bl (decide (ns = ms))) H) : rEqD K (.ref a) (.ref b) H Q := by
  refine ⟨.list (ns.map PyData.int), .list (ms.map PyData.int), .lst h (dpAll_ints ns), .lst h' (dpAll_ints ms), shaped_ints _, shaped_ints _, ?_⟩
  show Q (.bl (PyData.eqvAll _ _)) H
  rw [eqvAll_ints]
  exact q
theorem wp_neL (h : SqL K H a (ns.map V.int)) (h' : SqL K H b (ms.map V.int)) (q : Q (.bl (!decide (ns = ms))) H) : rNeD K (.ref a) (.ref b) H Q := by
  refine ⟨.list (ns.map PyData.int), .list (ms.map PyData.int), .lst h (dpAll_ints ns), .lst h' (dpAll_ints ms), shaped_ints _, shaped_ints _, ?_⟩
  show Q (.bl (!PyData.eqvAll _ _)) H
  rw [eqvAll_ints]
  exact q
/-! ### loops -/
theorem wp_for {wi : TI} {g : TG} (q : wi σ H (kFor g t D σ)) : tFor wi g t D σ H := q
theorem wp_lc {wi : TI} {g : TG} {ws : List Nat} (q : wi σ H (kLc g tt te ws σ Q)) : tLc wi g tt te ws σ H Q := q
theorem wp_iList {R : It → Hp → Prop} (q : te σ H (kIList K R)) : iList K te σ H R := q
theorem wp_kIList {R : It → Hp → Prop} (h : SqL K H a xs) (q : R (Itl K a) H) : kIList K R (.ref a) H := ⟨a, rfl, ⟨xs, h⟩, q⟩
theorem wp_iRng1 {R : It → Hp → Prop} {ta : TA} (q : ta σ H (kRng1 R)) : iRng1 ta σ H R := q
theorem wp_kRng1 {R : It → Hp → Prop} (h : -100000000 ≤ i ∧ i < 100000000) (q : R (Itr 0 i.toNat) H) : kRng1 R [.int i] H := ⟨i, rfl, by omega, by omega, q⟩
theorem wp_iRng2 {R : It → Hp → Prop} {ta : TA} (q : ta σ H (kRng2 R)) : iRng2 ta σ H R := q
theorem wp_kRng2 {R : It → Hp → Prop} (h : -100000000 ≤ i ∧ i < 100000000) (h' : -100000000 ≤ j ∧ j < 100000000) (q : R (Itr i (j - i).toNat) H) : kRng2 R [.int i, .int j] H := ⟨i, j, rfl, by omega, q⟩
theorem wp_iEnum {R : It → Hp → Prop} {ta : TA} (q : ta σ H (kEnum K R)) : iEnum K ta σ H R := q
theorem wp_kEnum {R : It → Hp → Prop} (h : SqL K H a xs) (q : R (Ite K a) H) : kEnum K R [.ref a] H := ⟨a, xs, rfl, h, q⟩
theorem wp_gName {n : Nat} {Q : L2.St → Hp → Prop} (h : σ.set n (some v) = σ') (q : Q σ' H) : gName n v σ H Q := by
  show Q (σ.set n (some v)) H
  rw [h]
  exact q
theorem wp_gTup {n : Nat} {g : TGs} {Q : L2.St → Hp → Prop} (h : SqT K H a xs) (hl : xs.length = n) (q : g xs σ H Q) : gTup K n g (.ref a) σ H Q := ⟨a, xs, rfl, h, hl, q⟩
theorem wp_gCons {g : TG} {gs : TGs} {Q : L2.St → Hp → Prop} (q : g v σ H fun σ' H' => gs xs σ' H' Q) : gCons g gs (v :: xs) σ H Q := ⟨v, xs, rfl, q⟩
theorem wp_gNil {Q : L2.St → Hp → Prop} (q : Q σ H) : gNil [] σ H Q := ⟨rfl, q⟩
/-- a for over a list of ints -/
theorem forI {g : TG} (Pv : Nat → L2.St → Hp → Prop) (h0 : Pv 0 σ H) (hl : ∀ i σ' H', i ≤ ns.length → Pv i σ' H' → SqL K H' a (ns.map V.int))
    (hs : ∀ (i : Nat) σ' H', i < ns.length → Pv i σ' H' → g (.int (nth ns i)) σ' H' fun σ2 H2 => t { D with nx := Pv (i + 1), ct := Pv (i + 1), bk := D.nx } σ2 H2) (hd : ∀ σ' H', Pv ns.length σ' H' → D.nx σ' H') : kFor g t D σ (Itl K a) H := by
  refine for_list (K := K) (a := a) (xs := ns.map V.int) Pv h0 (fun i σ' H' hi p => hl i σ' H' (by rw [List.length_map] at hi; exact hi) p) (fun i x σ' H' e p => ?_) (fun σ' H' p => hd σ' H' (by rw [List.length_map] at p; exact p))
  have hi : i < ns.length := by
    have := (List.getElem?_eq_some_iff.mp e).1
    rw [List.length_map] at this
    exact this
  have ex : x = .int (nth ns i) := by
    have q := atI_nth (ns := ns) (i := (i : Int)) (by omega) (by omega)
    unfold nth
    rw [List.getElem?_map, List.getElem?_eq_getElem hi] at e
    rw [← Option.some.inj e]
    simp [List.getD_eq_getElem?_getD, hi]
  subst ex
  exact hs i σ' H' hi p
/-- a for over a list of anything -/
theorem forR {g : TG} (Pv : Nat → L2.St → Hp → Prop) (h0 : Pv 0 σ H) (hl : ∀ i σ' H', i ≤ xs.length → Pv i σ' H' → SqL K H' a xs)
    (hs : ∀ (i : Nat) x σ' H', xs[i]? = some x → Pv i σ' H' → g x σ' H' fun σ2 H2 => t { D with nx := Pv (i + 1), ct := Pv (i + 1), bk := D.nx } σ2 H2) (hd : ∀ σ' H', Pv xs.length σ' H' → D.nx σ' H') : kFor g t D σ (Itl K a) H :=
  for_list (K := K) (a := a) (xs := xs) Pv h0 hl hs hd
theorem forN {g : TG} {lo : Int} {n : Nat} (Pv : Nat → L2.St → Hp → Prop) (h0 : Pv 0 σ H)
    (hs : ∀ (i : Nat) σ' H', i < n → Pv i σ' H' → g (.int (lo + i)) σ' H' fun σ2 H2 => t { D with nx := Pv (i + 1), ct := Pv (i + 1), bk := D.nx } σ2 H2) (hd : ∀ σ' H', Pv n σ' H' → D.nx σ' H') : kFor g t D σ (Itr lo n) H :=
  for_range Pv h0 hs hd
/-- a for over enumerate of a list of ints -/
theorem forE {g : TG} (Pv : Nat → L2.St → Hp → Prop) (h0 : Pv 0 σ H) (hl : ∀ i σ' H', i ≤ ns.length → Pv i σ' H' → SqL K H' a (ns.map V.int))
    (hs : ∀ (i : Nat) σ' H' T, i < ns.length → Pv i σ' H' → H' T = none → g (.ref T) σ' (upd H' T (.tup [.int i, .int (nth ns i)])) fun σ2 H2 => t { D with nx := Pv (i + 1), ct := Pv (i + 1), bk := D.nx } σ2 H2) (hd : ∀ σ' H', Pv ns.length σ' H' → D.nx σ' H') : kFor g t D σ (Ite K a) H := by
  refine for_it (walk_enum (K := K) (a := a) (xs := ns.map V.int)) Pv h0 (fun i σ' H' hi p => hl i σ' H' (by rw [List.length_map] at hi; exact hi) p) (fun i x σ' H' H2 hi p y => ?_) (fun σ' H' p => hd σ' H' (by rw [List.length_map] at p; exact p))
  rw [List.length_map] at hi
  obtain ⟨T, x1, y1, rfl, hn, rfl, e1, e2⟩ := y
  have e1' : x1 = .int i := (Option.some.inj e1).symm
  have ey : y1 = .int (nth ns i) := by
    unfold nth
    have e2' : (ns.map V.int)[i]? = some y1 := e2
    rw [List.getElem?_map, List.getElem?_eq_getElem hi] at e2'
    rw [← Option.some.inj e2']
    simp [List.getD_eq_getElem?_getD, hi]
  subst e1' ey
  exact hs i σ' H' T hi p hn
end
end Bs

namespace Bs
open PySem L2
/-- the classes' addresses -/
structure Cs where
  Answer : Addr := 0
  Best : Addr := 0
  Steep : Addr := 0
  Around : Addr := 0
  Exact : Addr := 0
  Never : Addr := 0
  Several : Addr := 0
  StretchError : Addr := 0
  BadRow : Addr := 0
  BadLeast : Addr := 0
  BadTotal : Addr := 0
  BadMany : Addr := 0
/-- a law's promise -/
def spLaw (K : PySem.W.Frag) : Sp := fun vs H Q _ => ∃ (a : Addr) (ns : List Int), vs = [.ref a] ∧ SqL K H a (ns.map V.int) ∧ ns.length ≤ 63 ∧ ∀ H', Q (.bl true) H'
theorem len1 {vs : List V} {a : V} (h : vs = [a]) : vs.length = 1 := by rw [h]; rfl

section
variable {K : PySem.W.Frag} {σ σ' : L2.St} {H H' : Hp} {Q : VK} {QB : Bool → Hp → Prop} {ta tb te : TE} {tt uu : TT} {t u : TS} {D : Ends} {v x y : V} {i j : Int} {r : R2} {a b p : Addr} {ns ms : List Int} {xs ys vs : List V} {c d : Bool}
/-! ### comprehensions -/
theorem lcW {J : It} {n : Nat} {G : Hp → Prop} {X : Nat → V} {g : TG} {ws : List Nat} {σi : Nat → L2.St} (w : Walk J n G (fun i H x H' => H' = H ∧ x = X i)) (b : Nat → Bool) (v : Nat → V) (hn : n ≤ 100000)
    (hG : ∀ H', Same H H' → G H') (hg : ∀ i H' k, k (σi i) H' → g (X i) (wipe σ ws) H' k) (hw : ∀ i, wipe (σi i) ws = wipe σ ws)
    (ht : ∀ i H', i < n → Same H H' → ∀ Q' : Bool → Hp → Prop, (∀ H'', Same H' H'' → Q' (b i) H'') → tt (σi i) H' Q')
    (he : ∀ i H', i < n → b i = true → Same H H' → ∀ Q' : VK, (∀ H'', Same H' H'' → Q' (v i) H'') → te (σi i) H' Q')
    (q : ∀ p H', H p = none → Same H H' → H' p = some (.lst (((List.range n).filter b).map v)) → Q (.ref p) H') : kLc g tt te ws σ Q J H := by
  intro D hD
  refine lc_it w (Qd := fun H' => Q (.ref D) H') (fun i H' => Same H H' ∧ H' D = some (.lst (((List.range i).filter b).map v))) ⟨same_new (Same.refl H) hD, upd_same⟩ (fun i H' _ p => hG H' p.1) ?_ (fun H' p => q D H' hD p.1 p.2)
  rintro i x H1 H2 hi ⟨s1, d1⟩ ⟨rfl, rfl⟩
  refine hg i _ _ ⟨hw i, ht i H2 hi s1 _ fun H3 s3 => ?_⟩
  have d3 := s3 _ _ d1
  have e : ((List.range (i + 1)).filter b).map v = if b i = true then ((List.range i).filter b).map v ++ [v i] else ((List.range i).filter b).map v := by
    rw [List.range_succ, List.filter_append, List.map_append]
    cases hb : b i <;> simp [hb]
  by_cases hb : b i = true
  · rw [if_pos hb] at e
    rw [if_pos hb]
    refine he i H3 hi hb (s1.trans s3) _ fun H4 s4 => ⟨_, s4 _ _ d3, szl ?_, same_mut ((s1.trans s3).trans s4) hD, ?_⟩
    · rw [List.length_map]
      have := List.length_filter_le b (List.range i)
      rw [List.length_range] at this
      omega
    · rw [e]
      exact upd_same
  · rw [if_neg hb] at e
    rw [if_neg hb, e]
    exact ⟨s1.trans s3, d3⟩
theorem map_range_nth {α : Type} (f : Int → α) (ns : List Int) : (List.range ns.length).map (fun i : Nat => f (nth ns i)) = ns.map f := by
  apply List.ext_getElem
  · simp
  · intro i h1 h2
    simp at h1
    simp [nth, h1]
theorem walkI {ns : List Int} : Walk (Itl K a) ns.length (fun H => SqL K H a (ns.map V.int)) (fun i H x H' => H' = H ∧ x = .int (nth ns i)) := by
  have w := walk_list (K := K) (a := a) (xs := ns.map V.int)
  rw [List.length_map] at w
  refine w.mono (fun _ h => h) fun i H x H' hi _ y => ⟨y.1, ?_⟩
  have e := y.2
  rw [List.getElem?_map, List.getElem?_eq_getElem hi] at e
  rw [← Option.some.inj e]
  simp [nth, hi]
/-- over a list of ints, each item's value by f -/
theorem lcI {k : Nat} (f : Int → V) (h : SqL K H a (ns.map V.int)) (hn : ns.length ≤ 100000) (hw : ∀ x : V, wipe ((wipe σ [k]).set k (some x)) [k] = wipe σ [k])
    (he : ∀ (i : Nat) H', i < ns.length → Same H H' → ∀ Q' : VK, (∀ H'', Same H' H'' → Q' (f (nth ns i)) H'') → te ((wipe σ [k]).set k (some (.int (nth ns i)))) H' Q')
    (q : ∀ p H', H p = none → Same H H' → H' p = some (.lst (ns.map f)) → Q (.ref p) H') : kLc (gName k) tYes te [k] σ Q (Itl K a) H := by
  refine lcW (σi := fun i => (wipe σ [k]).set k (some (.int (nth ns i)))) (walkI (ns := ns)) (fun _ => true) (fun i => f (nth ns i)) hn (fun H' s => s.seq h) (fun i H' k' z => z) (fun i => hw _) (fun i H' _ _ Q' z => z H' (Same.refl H')) (fun i H' hi _ s => he i H' hi s) fun p H' np s hp => ?_
  refine q p H' np s ?_
  rw [hp, ← map_range_nth f ns]
  congr 2
  rw [List.filter_eq_self.mpr (fun _ _ => rfl)]
theorem lcI_int {k : Nat} (f : Int → Int) (h : SqL K H a (ns.map V.int)) (hn : ns.length ≤ 100000) (hw : ∀ x : V, wipe ((wipe σ [k]).set k (some x)) [k] = wipe σ [k])
    (he : ∀ (i : Nat) H', i < ns.length → Same H H' → ∀ Q' : VK, (∀ H'', Same H' H'' → Q' (.int (f (nth ns i))) H'') → te ((wipe σ [k]).set k (some (.int (nth ns i)))) H' Q')
    (q : ∀ p H', H p = none → Same H H' → H' p = some (.lst ((ns.map f).map V.int)) → Q (.ref p) H') : kLc (gName k) tYes te [k] σ Q (Itl K a) H :=
  lcI (fun n => .int (f n)) h hn hw he fun p H' np s hp => q p H' np s (by rw [hp, List.map_map]; rfl)
theorem lcI_bl {k : Nat} (f : Int → Bool) (h : SqL K H a (ns.map V.int)) (hn : ns.length ≤ 100000) (hw : ∀ x : V, wipe ((wipe σ [k]).set k (some x)) [k] = wipe σ [k])
    (he : ∀ (i : Nat) H', i < ns.length → Same H H' → ∀ Q' : VK, (∀ H'', Same H' H'' → Q' (.bl (f (nth ns i))) H'') → te ((wipe σ [k]).set k (some (.int (nth ns i)))) H' Q')
    (q : ∀ p H', H p = none → Same H H' → H' p = some (.lst ((ns.map f).map V.bl)) → Q (.ref p) H') : kLc (gName k) tYes te [k] σ Q (Itl K a) H :=
  lcI (fun n => .bl (f n)) h hn hw he fun p H' np s hp => q p H' np s (by rw [hp, List.map_map]; rfl)
/-- over a range, each turn's value by f -/
theorem lcN {k : Nat} {lo : Int} {n : Nat} (f : Nat → V) (hn : n ≤ 100000) (hw : ∀ x : V, wipe ((wipe σ [k]).set k (some x)) [k] = wipe σ [k])
    (he : ∀ (i : Nat) H', i < n → Same H H' → ∀ Q' : VK, (∀ H'', Same H' H'' → Q' (f i) H'') → te ((wipe σ [k]).set k (some (.int (lo + i)))) H' Q')
    (q : ∀ p H', H p = none → Same H H' → H' p = some (.lst ((List.range n).map f)) → Q (.ref p) H') : kLc (gName k) tYes te [k] σ Q (Itr lo n) H := by
  refine lcW (σi := fun i => (wipe σ [k]).set k (some (.int (lo + i)))) (walk_range (lo := lo) (n := n)) (fun _ => true) f hn (fun _ _ => trivial) (fun i H' k' z => z) (fun i => hw _) (fun i H' _ _ Q' z => z H' (Same.refl H')) (fun i H' hi _ s => he i H' hi s) fun p H' np s hp => ?_
  refine q p H' np s ?_
  rw [hp, List.filter_eq_self.mpr (fun _ _ => rfl)]
/-- reversed(range(n)) -/
def kRev1 (R : It → Hp → Prop) : VK := fun x H1 => ∃ n : Int, x = .int n ∧ (-(2 ^ 62) ≤ (0 : Int) ∧ (0 : Int) < 2 ^ 62 ∧ -(2 ^ 62) ≤ n ∧ n < 2 ^ 62 ∧ R (Itc (0 + (((n - 0).toNat : Nat) : Int) - 1) (-1) (n - 0).toNat) H1)
theorem wp_iRevR1 {R : It → Hp → Prop} (q : ta σ H (kRev1 R)) : iRevR (tRg1 ta) σ H R := q
theorem wp_kRev1 {R : It → Hp → Prop} {n : Nat} (h : n ≤ 100000) (q : R (Itc ((n : Int) - 1) (-1) n) H) : kRev1 R (.int n) H := by
  have e : ((n : Int) - 0).toNat = n := by omega
  refine ⟨n, rfl, by omega, by omega, by omega, by omega, ?_⟩
  rw [e, Int.zero_add]
  exact q
theorem forRev {g : TG} {n : Nat} (Pv : Nat → L2.St → Hp → Prop) (h0 : Pv 0 σ H)
    (hs : ∀ (i : Nat) σ' H', i < n → Pv i σ' H' → g (.int ((n - 1 - i : Nat) : Int)) σ' H' fun σ2 H2 => t { D with nx := Pv (i + 1), ct := Pv (i + 1), bk := D.nx } σ2 H2) (hd : ∀ σ' H', Pv n σ' H' → D.nx σ' H') : kFor g t D σ (Itc ((n : Int) - 1) (-1) n) H :=
  for_rangeC Pv h0 (fun i σ' H' hi p => by
    have e : ((n : Int) - 1) + (i : Nat) * (-1) = ((n - 1 - i : Nat) : Int) := by omega
    rw [e]
    exact hs i σ' H' hi p) hd
theorem wp_tYes {Q : Bool → Hp → Prop} (q : Q true H) : tYes σ H Q := q
/-! ### all, any, isinstance -/
theorem wp_all {bs : List Bool} (h : H a = some (.lst (bs.map V.bl))) (q : Q (.bl (bs.all id)) H) : rAll K [.ref a] H Q := ⟨a, bs, rfl, SqL.of h, q⟩
theorem wp_any {bs : List Bool} (h : H a = some (.lst (bs.map V.bl))) (q : Q (.bl (bs.any id)) H) : rAny K [.ref a] H Q := ⟨a, bs, rfl, SqL.of h, q⟩
theorem isi_int (q : Q (.bl true) H) : rIsi K [.int i, .ty "int"] H Q := ⟨_, _, _, _, true, rfl, .ty _, .base (.int i), kit_ty (by decide +kernel), q⟩
theorem isi_int_bool (q : Q (.bl false) H) : rIsi K [.int i, .ty "bool"] H Q := ⟨_, _, _, _, false, rfl, .ty _, .base (.int i), kit_ty (by decide +kernel), q⟩
theorem isi_bool (q : Q (.bl true) H) : rIsi K [.bl c, .ty "bool"] H Q := ⟨_, _, _, _, true, rfl, .ty _, .base (.bl c), kit_ty (by decide +kernel), q⟩
theorem isi_list (h : H a = some (.lst xs)) (q : Q (.bl true) H) : rIsi K [.ref a, .ty "list"] H Q := ⟨_, _, _, _, true, rfl, .ty _, .base (.lst h), kit_ty (by decide +kernel), q⟩
theorem isi_tup (h : H a = some (.tup xs)) (q : Q (.bl true) H) : rIsi K [.ref a, .ty "tuple"] H Q := ⟨_, _, _, _, true, rfl, .ty _, .base (.tup h), kit_ty (by decide +kernel), q⟩
/-! ### dicts of ints -/
def kD2 (ty tx : TE) (σ : L2.St) (Q : VK) : VK := fun x H1 => ∃ a, x = .ref a ∧ IsD H1 a ∧ ty σ H1 fun y H2 => tx σ H2 fun z H3 => ∃ o, DGet H3 a y o ∧ Q (o.getD z) H3
theorem wp_dget2 {td ty tx : TE} (q : td σ H (kD2 ty tx σ Q)) : tDGet2 td ty tx σ H Q := q
theorem wp_kD2 {kvs : List (Key × V)} {ty tx : TE} {n m : Int} (h : H a = some (.dK kvs)) (hy : ∀ Q' : VK, Q' (.int n) H → ty σ H Q') (hx : ∀ Q' : VK, Q' (.int m) H → tx σ H Q') (q : Q ((valV kvs (.inl n)).getD (.int m)) H) : kD2 ty tx σ Q (.ref a) H :=
  ⟨a, rfl, .inl ⟨kvs, .inl h⟩, hy _ (hx _ ⟨_, DGet.k (k := Sum.inl n) h, q⟩)⟩
def kPut (ty : TE) (D : Ends) (σ : L2.St) (td : TE) : VK := fun v H1 => td σ H1 fun x H2 => ty σ H2 fun y H3 => ∃ a H4, x = .ref a ∧ DPut H3 a y v H4 ∧ D.nx σ H4
theorem wp_dput {td ty tv : TE} (q : tv σ H (kPut ty D σ td)) : sDPut td ty tv D σ H := q
def kPut2 (v : V) (D : Ends) (σ : L2.St) : V → V → Hp → Prop := fun x y H3 => ∃ a H4, x = .ref a ∧ DPut H3 a y v H4 ∧ D.nx σ H4
theorem wp_kPut {td ty : TE} (q : td σ H fun x H2 => ty σ H2 fun y H3 => kPut2 v D σ x y H3) : kPut ty D σ td v H := q
theorem wp_kPut2 {kvs : List (Key × V)} {n : Int} (h : H a = some (.dK kvs)) (hl : kvs.length < 100000) (q : D.nx σ (upd H a (.dK (putK kvs (.inl n) v)))) : kPut2 v D σ (.ref a) (.int n) H :=
  ⟨a, _, rfl, DPut.k (k := Sum.inl n) h (szl hl), q⟩
theorem wp_dnew (q : ∀ p, H p = none → Q (.ref p) (upd H p (.dK []))) : tDNewK σ H Q := q
def kIn (Q : VK) : V → V → Hp → Prop := fun y x H2 => ∃ a o, x = .ref a ∧ DGet H2 a y o ∧ Q (.bl o.isSome) H2
def kNin (Q : VK) : V → V → Hp → Prop := fun y x H2 => ∃ a o, x = .ref a ∧ DGet H2 a y o ∧ Q (.bl (!o.isSome)) H2
theorem wp_din {ty td : TE} (q : ty σ H fun y H1 => td σ H1 fun x H2 => kIn Q y x H2) : tDIn ty td σ H Q := q
theorem wp_dnin {ty td : TE} (q : ty σ H fun y H1 => td σ H1 fun x H2 => kNin Q y x H2) : tDNotIn ty td σ H Q := q
theorem wp_kIn {kvs : List (Key × V)} {n : Int} (h : Rd H a (.dK kvs)) (q : Q (.bl (valV kvs (.inl n)).isSome) H) : kIn Q (.int n) (.ref a) H := ⟨a, _, rfl, .inl ⟨kvs, .inl n, h, rfl, rfl⟩, q⟩
theorem wp_kNin {kvs : List (Key × V)} {n : Int} (h : Rd H a (.dK kvs)) (q : Q (.bl (!(valV kvs (.inl n)).isSome)) H) : kNin Q (.int n) (.ref a) H := ⟨a, _, rfl, .inl ⟨kvs, .inl n, h, rfl, rfl⟩, q⟩
def kGet (Q : VK) : V → V → Hp → Prop := fun x y H2 => ∃ a v, x = .ref a ∧ DGet H2 a y (some v) ∧ Q v H2
theorem wp_dget {td ty : TE} (q : td σ H fun x H1 => ty σ H1 fun y H2 => kGet Q x y H2) : tDGet td ty σ H Q := q
theorem wp_kGet {kvs : List (Key × V)} {n : Int} (h : Rd H a (.dK kvs)) (e : valV kvs (.inl n) = some v) (q : Q v H) : kGet Q (.ref a) (.int n) H := ⟨a, v, rfl, .inl ⟨kvs, .inl n, h, rfl, e.symm⟩, q⟩
theorem putK_len' (kvs : List (Key × V)) (k : Key) (x : V) : (putK kvs k x).length ≤ kvs.length + 1 := by
  unfold putK
  split
  · simp
  · simp
end

/-! ### sums from the beginning -/
def pre (ns : List Int) (i : Nat) : Int := (ns.take i).sum
/-- all of them -/
def psums (ns : List Int) : List Int := (List.range (ns.length + 1)).map (pre ns)
def psumsTo (ns : List Int) (i : Nat) : List Int := (List.range (i + 1)).map (pre ns)
theorem psumsTo_zero (ns : List Int) : psumsTo ns 0 = [0] := by simp [psumsTo, pre]
theorem psumsTo_all (ns : List Int) : psumsTo ns ns.length = psums ns := rfl
theorem psums_length (ns : List Int) : (psums ns).length = ns.length + 1 := by simp [psums]
theorem psumsTo_length (ns : List Int) (i : Nat) : (psumsTo ns i).length = i + 1 := by simp [psumsTo]
theorem pre_zero (ns : List Int) : pre ns 0 = 0 := by simp [pre]
theorem pre_succ {ns : List Int} {i : Nat} (h : i < ns.length) : pre ns (i + 1) = pre ns i + nth ns i := by
  have e : ns[i]? = some (nth ns i) := by simp [nth, h]
  exact sum_take e
theorem nth_psumsTo (ns : List Int) {i j : Nat} (h : j ≤ i) : nth (psumsTo ns i) j = pre ns j := by
  unfold nth psumsTo
  have : j < i + 1 := by omega
  simp [this]
theorem nth_psums (ns : List Int) {j : Nat} (h : j ≤ ns.length) : nth (psums ns) j = pre ns j := nth_psumsTo ns h
theorem psumsTo_succ {ns : List Int} {i : Nat} (h : i < ns.length) : psumsTo ns (i + 1) = psumsTo ns i ++ [pre ns i + nth ns i] := by
  unfold psumsTo
  rw [List.range_succ, List.map_append, ← pre_succ h]
  try rfl
theorem psums_nil : psums [] = [0] := by simp [psums, pre]
theorem psums_cons (n : Int) (r : List Int) : psums (n :: r) = 0 :: (psums r).map (n + ·) := by
  unfold psums
  rw [List.length_cons, List.range_succ_eq_map, List.map_cons, List.map_map, List.map_map, pre_zero]
  congr 1
theorem psums_neg (r : List Int) : psums (r.map (- ·)) = (psums r).map (- ·) := by
  induction r with
  | nil => simp [psums_nil]
  | cons n r ih =>
    rw [List.map_cons, psums_cons, psums_cons, ih, List.map_cons, List.map_map, List.map_map]
    congr 1
    apply List.map_congr_left
    intro x _
    simp
    omega
theorem psums_snoc (r : List Int) (n : Int) : psums (r ++ [n]) = psums r ++ [r.sum + n] := by
  unfold psums
  rw [List.length_append, List.length_singleton, List.range_succ, List.map_append]
  congr 1
  · apply List.map_congr_left
    intro i hi
    rw [List.mem_range] at hi
    unfold pre
    rw [List.take_append_of_le_length (by omega)]
  · have : (r ++ [n]).take (r.length + 1) = r ++ [n] := List.take_of_length_le (by simp)
    simp [pre, this]
theorem psums_rev (r : List Int) : psums r.reverse = (psums r).reverse.map (r.sum - ·) := by
  induction r with
  | nil => simp [psums_nil]
  | cons n r ih =>
    rw [List.reverse_cons, psums_snoc, ih, psums_cons, List.reverse_cons, List.map_append, List.sum_cons, ← List.map_reverse, List.map_map]
    congr 1
    · apply List.map_congr_left
      intro x _
      simp
      omega
    · have e : ∀ l : List Int, l.reverse.sum = l.sum := fun l => by
        induction l with
        | nil => rfl
        | cons x l ih => rw [List.reverse_cons, List.sum_append, ih]; simp; omega
      simp
      omega
/-! ### how many pairs part by t -/
def pairs (t : Int) : List Int → Int
  | [] => 0
  | x :: r => (r.count (x + t) : Int) + pairs t r
theorem pairs_snoc (t : Int) (l : List Int) (y : Int) : pairs t (l ++ [y]) = pairs t l + (l.count (y - t) : Int) := by
  induction l with
  | nil => simp [pairs]
  | cons x r ih =>
    rw [List.cons_append, pairs, pairs, ih, List.count_append]
    simp only [List.count_cons, List.count_nil, beq_iff_eq]
    by_cases e : x + t = y
    · rw [if_pos e.symm, if_pos (show x = y - t by omega)]
      omega
    · rw [if_neg (fun z => e z.symm), if_neg (show ¬ x = y - t by omega)]
      omega
theorem count_map_of {f : Int → Int} (hf : ∀ x y, f x = f y → x = y) (l : List Int) (x : Int) : (l.map f).count (f x) = l.count x := by
  induction l with
  | nil => rfl
  | cons y r ih =>
    rw [List.map_cons, List.count_cons, List.count_cons, ih]
    by_cases e : y = x
    · simp [e]
    · have e2 : ¬ f y = f x := fun z => e (hf _ _ z)
      simp [e, e2]
theorem pairs_neg (t : Int) (l : List Int) : pairs (-t) (l.map (- ·)) = pairs t l := by
  induction l with
  | nil => rfl
  | cons x r ih =>
    rw [List.map_cons, pairs, pairs, ih]
    have e : -x + -t = -(x + t) := by omega
    rw [e, count_map_of (f := (- ·)) (fun a b h => by simp at h; exact h)]
theorem count_rev (l : List Int) (x : Int) : l.reverse.count x = l.count x := by
  induction l with
  | nil => rfl
  | cons y r ih =>
    rw [List.reverse_cons, List.count_append, ih]
    simp only [List.count_cons, List.count_nil]
    omega
theorem pairs_rev (t S : Int) (l : List Int) : pairs t (l.reverse.map (S - ·)) = pairs t l := by
  induction l with
  | nil => rfl
  | cons x r ih =>
    rw [List.reverse_cons, List.map_append, List.map_cons, List.map_nil, pairs_snoc, ih, pairs]
    have e : S - x - t = S - (x + t) := by omega
    rw [e, count_map_of (f := (S - ·)) (fun a b h => by simp at h; omega), count_rev]
    omega
/-- how many stretches have the sum t -/
def cntOf (ns : List Int) (t : Int) : Int := pairs t (psums ns)
theorem cntOf_neg (ns : List Int) (t : Int) : cntOf (ns.map (- ·)) (-t) = cntOf ns t := by
  unfold cntOf
  rw [psums_neg, pairs_neg]
theorem cntOf_rev (ns : List Int) (t : Int) : cntOf ns.reverse t = cntOf ns t := by
  unfold cntOf
  rw [psums_rev, pairs_rev]
/-! ### a dict that counts -/
def CntD (kvs : List (Key × V)) (l : List Int) : Prop := (∀ v : Int, (valV kvs (.inl v)).getD (.int 0) = .int (l.count v)) ∧ kvs.length ≤ l.length
theorem cntD_nil : CntD [] [] := ⟨fun v => by simp [valV_nil], by simp⟩
theorem cntD_put {kvs : List (Key × V)} {l l' : List Int} {y : Int} (h : CntD kvs l) (hl : ∀ v, l'.count v = l.count v + if v = y then 1 else 0) (hn : l'.length = l.length + 1) :
    CntD (putK kvs (.inl y) (.int ((l.count y : Int) + 1))) l' := by
  refine ⟨fun v => ?_, ?_⟩
  · rw [valV_put, hl v]
    by_cases e : v = y
    · subst e
      simp
    · have : ¬ (Sum.inl v : Key) = Sum.inl y := fun z => e (Sum.inl.inj z)
      rw [if_neg this, if_neg e, h.1 v]
      simp
  · have := putK_len' kvs (.inl y) (.int ((l.count y : Int) + 1))
    have := h.2
    omega
/-! ### the law's row -/
def lmost (ns : List Int) : Int := nth [3, 10, 10, 1000000] (ns.sum % 4)
def lrow (ns : List Int) : List Int := ns.map fun c => c % (2 * lmost ns + 1) - lmost ns
theorem lmost_cases (ns : List Int) : lmost ns = 3 ∨ lmost ns = 10 ∨ lmost ns = 1000000 := by
  unfold lmost
  have h1 : 0 ≤ ns.sum % 4 := Int.emod_nonneg _ (by decide)
  have h2 : ns.sum % 4 < 4 := Int.emod_lt_of_pos _ (by decide)
  have : ns.sum % 4 = 0 ∨ ns.sum % 4 = 1 ∨ ns.sum % 4 = 2 ∨ ns.sum % 4 = 3 := by omega
  rcases this with e | e | e | e <;> rw [e]
  · exact .inl rfl
  · exact .inr (.inl rfl)
  · exact .inr (.inl rfl)
  · exact .inr (.inr rfl)
/-- a row that is no refusal -/
def IsRow (ns : List Int) : Prop := ∀ n ∈ ns, -1000000 ≤ n ∧ n ≤ 1000000
theorem lrow_length (ns : List Int) : (lrow ns).length = ns.length := by simp [lrow]
theorem lrow_row (ns : List Int) : IsRow (lrow ns) := by
  intro n hn
  unfold lrow at hn
  obtain ⟨c, _, rfl⟩ := List.mem_map.mp hn
  rcases lmost_cases ns with e | e | e <;> rw [e] <;> omega
theorem IsRow.rev {ns : List Int} (h : IsRow ns) : IsRow ns.reverse := fun n hn => h n (by simpa using hn)
theorem IsRow.neg {ns : List Int} (h : IsRow ns) : IsRow (ns.map (- ·)) := fun n hn => by
  obtain ⟨m, hm, rfl⟩ := List.mem_map.mp hn
  have := h m hm
  omega
theorem nth_mem {ns : List Int} {i : Nat} (h : i < ns.length) : nth ns i ∈ ns := by
  have : nth ns i = ns[i] := by simp [nth, h]
  rw [this]
  exact List.getElem_mem h
end Bs

namespace Bs
open PySem L2
def sp_l_numbers (_ : PySem.W.Frag) (_ : Cs) : Sp := fun vs H Q _ => ∃ (a : Addr) (ns : List Int), vs = [.ref a] ∧ H a = some (.lst (ns.map V.int)) ∧ ns.length ≤ 1000 ∧ RetV H Q (.bl true)
theorem len_l_numbers {K : PySem.W.Frag} {cs : Cs} {vs : List V} {H : Hp} {Q : VK} {E : XK} (h : sp_l_numbers K cs vs H Q E) : vs.length = 1 := by
  obtain ⟨_, _, rfl, _⟩ := h; rfl
def sp_l_row (K : PySem.W.Frag) (_ : Cs) : Sp := fun vs H Q _ => ∃ (a : Addr) (ns : List Int), vs = [.ref a] ∧ SqL K H a (ns.map V.int) ∧ ns.length ≤ 1000 ∧ RetI H Q (lrow ns)
theorem len_l_row {K : PySem.W.Frag} {cs : Cs} {vs : List V} {H : Hp} {Q : VK} {E : XK} (h : sp_l_row K cs vs H Q E) : vs.length = 1 := by
  obtain ⟨_, _, rfl, _⟩ := h; rfl
def sp_l_sums (_ : PySem.W.Frag) (_ : Cs) : Sp := fun vs H Q _ => ∃ (a : Addr) (ns : List Int), vs = [.ref a] ∧ H a = some (.lst (ns.map V.int)) ∧ ns.length ≤ 1000 ∧ RetI H Q (psums ns)
theorem len_l_sums {K : PySem.W.Frag} {cs : Cs} {vs : List V} {H : Hp} {Q : VK} {E : XK} (h : sp_l_sums K cs vs H Q E) : vs.length = 1 := by
  obtain ⟨_, _, rfl, _⟩ := h; rfl
def sp_is_number (_ : PySem.W.Frag) (_ : Cs) : Sp := fun vs H Q _ => ∃ i : Int, vs = [.int i] ∧ Q (.bl true) H
theorem call_is_number {K : PySem.W.Frag} {cs : Cs} {i : Int} {H : Hp} {Q : VK} {E : XK} (q : Q (.bl true) H) : sp_is_number K cs [.int i] H Q E := ⟨i, rfl, q⟩
theorem len_is_number {K : PySem.W.Frag} {cs : Cs} {vs : List V} {H : Hp} {Q : VK} {E : XK} (h : sp_is_number K cs vs H Q E) : vs.length = 1 := by
  obtain ⟨_, rfl, _⟩ := h; rfl
def sp_asked_row (_ : PySem.W.Frag) (_ : Cs) : Sp := fun vs H Q _ => ∃ (a : Addr) (ns : List Int), vs = [.ref a] ∧ H a = some (.lst (ns.map V.int)) ∧ IsRow ns ∧ ns.length ≤ 1000 ∧ RetV H Q .non
theorem len_asked_row {K : PySem.W.Frag} {cs : Cs} {vs : List V} {H : Hp} {Q : VK} {E : XK} (h : sp_asked_row K cs vs H Q E) : vs.length = 1 := by
  obtain ⟨_, _, rfl, _⟩ := h; rfl
def sp_asked_total (_ : PySem.W.Frag) (_ : Cs) : Sp := fun vs H Q _ => ∃ i : Int, vs = [.int i] ∧ Q .non H
theorem len_asked_total {K : PySem.W.Frag} {cs : Cs} {vs : List V} {H : Hp} {Q : VK} {E : XK} (h : sp_asked_total K cs vs H Q E) : vs.length = 1 := by
  obtain ⟨_, rfl, _⟩ := h; rfl
def sp_summed (_ : PySem.W.Frag) (_ : Cs) : Sp := fun vs H Q _ => ∃ (a : Addr) (ns : List Int), vs = [.ref a] ∧ H a = some (.lst (ns.map V.int)) ∧ ns.length ≤ 1000 ∧ RetI H Q (psums ns)
theorem len_summed {K : PySem.W.Frag} {cs : Cs} {vs : List V} {H : Hp} {Q : VK} {E : XK} (h : sp_summed K cs vs H Q E) : vs.length = 1 := by
  obtain ⟨_, _, rfl, _⟩ := h; rfl
def sp_how_many (_ : PySem.W.Frag) (_ : Cs) : Sp := fun vs H Q _ => ∃ (a : Addr) (ns : List Int) (t : Int), vs = [.ref a, .int t] ∧ H a = some (.lst (ns.map V.int)) ∧ IsRow ns ∧ ns.length ≤ 1000 ∧ RetV H Q (.int (cntOf ns t))
theorem len_how_many {K : PySem.W.Frag} {cs : Cs} {vs : List V} {H : Hp} {Q : VK} {E : XK} (h : sp_how_many K cs vs H Q E) : vs.length = 2 := by
  obtain ⟨_, _, _, rfl, _⟩ := h; rfl
def sp_sums (_ : PySem.W.Frag) (_ : Cs) : Sp := fun vs H Q _ => ∃ (a : Addr) (ns : List Int), vs = [.ref a] ∧ H a = some (.lst (ns.map V.int)) ∧ IsRow ns ∧ ns.length ≤ 1000 ∧ RetI H Q (psums ns)
theorem len_sums {K : PySem.W.Frag} {cs : Cs} {vs : List V} {H : Hp} {Q : VK} {E : XK} (h : sp_sums K cs vs H Q E) : vs.length = 1 := by
  obtain ⟨_, _, rfl, _⟩ := h; rfl
def sp_law_k05 (K : PySem.W.Frag) (_ : Cs) : Sp := spLaw K
theorem len_law_k05 {K : PySem.W.Frag} {cs : Cs} {vs : List V} {H : Hp} {Q : VK} {E : XK} (h : sp_law_k05 K cs vs H Q E) : vs.length = 1 := by
  obtain ⟨_, _, rfl, _⟩ := h; rfl
end Bs
namespace Bs
open PySem L2
abbrev N_l_numbers : List Str := ["_law_found", "_law_one"]
def t_l_numbers (K : PySem.W.Frag) (cs : Cs) : TS :=
  (tSeq (tIfS (tNot (tB (tCB (rIsi K) (tCons (tVar 0) (tCons (tC (.ty "list")) tNil))))) (tRet (tC (.bl false))) tNext)
  (tRet (tCB (rAll K) (tCons (tLc (iList K (tVar 0)) (gName 1) tYes (tAndV (tCB (rIsi K) (tCons (tVar 1) (tCons (tC (.ty "int")) tNil))) (tNotV (tCB (rIsi K) (tCons (tVar 1) (tCons (tC (.ty "bool")) tNil))))) [1]) tNil))))
abbrev N_l_row : List Str := ["_law_script", "_law_most", "_law_cell"]
def t_l_row (K : PySem.W.Frag) (cs : Cs) : TS :=
  (tSeq (tAsg (tOp (rIxT K) (tTup (tCons (tC (.int 3)) (tCons (tC (.int 10)) (tCons (tC (.int 10)) (tCons (tC (.int 1000000)) tNil))))) (tOp rModI (tCB (rSum K) (tCons (tVar 0) tNil)) (tC (.int 4)))) (gName 1))
  (tRet (tLc (iList K (tVar 0)) (gName 2) tYes (tOp rSubI (tOp rModI (tVar 2) (tOp rAddI (tOp rMulI (tC (.int 2)) (tVar 1)) (tC (.int 1)))) (tVar 1)) [2])))
abbrev N_l_sums : List Str := ["_law_row_here", "_law_found", "_law_one"]
def t_l_sums (K : PySem.W.Frag) (cs : Cs) : TS :=
  (tSeq (tAsg (tLst (tCons (tC (.int 0)) tNil)) (gName 1))
  (tSeq (tFor (iList K (tVar 0)) (gName 2) (tDrop (tBM K "list" rAppend (tVar 1) (tCons (tOp rAddI (tOp (rIxL K) (tVar 1) (tUn rNegI (tC (.int 1)))) (tVar 2)) tNil))))
  (tRet (tVar 1))))
abbrev N_is_number : List Str := ["thing"]
def t_is_number (K : PySem.W.Frag) (cs : Cs) : TS :=
  (tRet (tAndV (tCB (rIsi K) (tCons (tVar 0) (tCons (tC (.ty "int")) tNil))) (tNotV (tCB (rIsi K) (tCons (tVar 0) (tCons (tC (.ty "bool")) tNil))))))
abbrev N_asked_row : List Str := ["row", "one"]
def t_asked_row (K : PySem.W.Frag) (cs : Cs) : TS :=
  (tIfS (tOr (tNot (tB (tCB (rIsi K) (tCons (tVar 0) (tCons (tC (.ty "list")) tNil))))) (tNot (tB (tCB (rAll K) (tCons (tLc (iList K (tVar 0)) (gName 1) tYes (tAndV (tCall (sp_is_number K cs) [] E0 (tCons (tVar 1) tNil)) (tChain rLeI rLeI (tUn rNegI (tC (.int 1000000))) (tVar 1) (tC (.int 1000000)))) [1]) tNil))))) tNever tNext)
abbrev N_asked_total : List Str := ["total"]
def t_asked_total (K : PySem.W.Frag) (cs : Cs) : TS :=
  (tIfS (tNot (tB (tCall (sp_is_number K cs) [] E0 (tCons (tVar 0) tNil)))) tNever tNext)
abbrev N_summed : List Str := ["row", "found", "one"]
def t_summed (K : PySem.W.Frag) (cs : Cs) : TS :=
  (tSeq (tAsg (tLst (tCons (tC (.int 0)) tNil)) (gName 1))
  (tSeq (tFor (iList K (tVar 0)) (gName 2) (tDrop (tBM K "list" rAppend (tVar 1) (tCons (tOp rAddI (tOp (rIxL K) (tVar 1) (tUn rNegI (tC (.int 1)))) (tVar 2)) tNil))))
  (tRet (tVar 1))))
abbrev N_how_many : List Str := ["row", "total", "counts", "found", "number"]
def t_how_many (K : PySem.W.Frag) (cs : Cs) : TS :=
  (tSeq (tDrop (tCall (sp_asked_row K cs) [] E0 (tCons (tVar 0) tNil)))
  (tSeq (tDrop (tCall (sp_asked_total K cs) [] E0 (tCons (tVar 1) tNil)))
  (tSeq (tAsg tDNewK (gName 2))
  (tSeq (tAsg (tC (.int 0)) (gName 3))
  (tSeq (tFor (iList K (tCall (sp_summed K cs) [] E0 (tCons (tVar 0) tNil))) (gName 4) (tSeq (tAsg (tOp rAddI (tVar 3) (tDGet2 (tVar 2) (tOp rSubI (tVar 4) (tVar 1)) (tC (.int 0)))) (gName 3))
  (sDPut (tVar 2) (tVar 4) (tOp rAddI (tDGet2 (tVar 2) (tVar 4) (tC (.int 0))) (tC (.int 1))))))
  (tRet (tVar 3)))))))
abbrev N_sums : List Str := ["row"]
def t_sums (K : PySem.W.Frag) (cs : Cs) : TS :=
  (tSeq (tDrop (tCall (sp_asked_row K cs) [] E0 (tCons (tVar 0) tNil)))
  (tRet (tCall (sp_summed K cs) [] E0 (tCons (tVar 0) tNil))))
abbrev N_law_k05 : List Str := ["_law_script", "_law_row_here", "_law_handed", "_law_told", "_law_again", "_law_total", "_law_found", "_law_counts", "_law_due", "_law_at", "_law_one"]
def t_law_k05 (K : PySem.W.Frag) (cs : Cs) : TS :=
  (tSeq (tAsg (tCall (sp_l_row K cs) [] E0 (tCons (tVar 0) tNil)) (gName 1))
  (tSeq (tAsg (tCB (cList K) (tCons (tVar 1) tNil)) (gName 2))
  (tSeq (tAsg (tCall (sp_l_sums K cs) [] E0 (tCons (tVar 1) tNil)) (gName 3))
  (tSeq (tFor (iRng1 (tCons (tC (.int 2)) tNil)) (gName 4) (tSeq (tAsg (tCall (sp_sums K cs) [] E0 (tCons (tVar 2) tNil)) (gName 6))
  (tSeq (tIfS (tOr (tNot (tB (tCall (sp_l_numbers K cs) [] E0 (tCons (tVar 6) tNil)))) (tOr (tTest (tOp (rNeD K) (tVar 6) (tVar 3))) (tTest (tOp (rNeD K) (tVar 2) (tVar 1))))) (tRet (tC (.bl false))) tNext)
  (tDrop (tBM K "list" rAppend (tVar 6) (tCons (tC (.int 0)) tNil))))))
  (tSeq (tFor (iList K (tLst (tCons (tC (.int 0)) (tCons (tC (.int 1)) (tCons (tOp rSubI (tOp rModI (tCB (rSum K) (tCons (tVar 0) tNil)) (tC (.int 9))) (tC (.int 4))) tNil))))) (gName 5) (tSeq (tAsg tDNewK (gName 7))
  (tSeq (tAsg (tC (.int 0)) (gName 8))
  (tSeq (tFor (iRevR (tRg1 (tCB (cLen K) (tCons (tVar 3) tNil)))) (gName 9) (tSeq (tAsg (tOp rAddI (tVar 8) (tDGet2 (tVar 7) (tOp rAddI (tOp (rIxL K) (tVar 3) (tVar 9)) (tVar 5)) (tC (.int 0)))) (gName 8))
  (sDPut (tVar 7) (tOp (rIxL K) (tVar 3) (tVar 9)) (tOp rAddI (tDGet2 (tVar 7) (tOp (rIxL K) (tVar 3) (tVar 9)) (tC (.int 0))) (tC (.int 1))))))
  (tSeq (tIfS (tOr (tTest (tOp rNe (tCall (sp_how_many K cs) [] E0 (tCons (tVar 2) (tCons (tVar 5) tNil))) (tVar 8))) (tTest (tOp rNe (tCall (sp_how_many K cs) [] E0 (tCons (tRevL K (tVar 1)) (tCons (tVar 5) tNil))) (tVar 8)))) (tRet (tC (.bl false))) tNext)
  (tIfS (tOr (tTest (tOp rNe (tCall (sp_how_many K cs) [] E0 (tCons (tLc (iList K (tVar 1)) (gName 10) tYes (tUn rNegI (tVar 10)) [10]) (tCons (tUn rNegI (tVar 5)) tNil))) (tVar 8))) (tTest (tOp (rNeD K) (tVar 2) (tVar 1)))) (tRet (tC (.bl false))) tNext))))))
  (tRet (tC (.bl true))))))))
end Bs
local macro_rules | `(tactic| walk_at "nn") => `(tactic| first
  | assumption
  | (with_reducible apply Bs.free_of'; (· assumption); (· walk_at "same")))
local macro_rules | `(tactic| walk_at "same") => `(tactic| first
  | assumption
  | exact L2.Same.refl _
  | (with_reducible apply Bs.same_new'; (· assumption); (· walk_at "same"))
  | (with_reducible apply Bs.same_mut'; (· walk_at "nn"); (· walk_at "same"))
  | (with_reducible apply Bs.same_r; (· assumption); (· walk_at "same")))
local macro_rules | `(tactic| walk_at "at") => `(tactic| first
  | assumption
  | with_reducible exact L2.upd_same
  | (with_reducible apply Bs.at_new'; (· assumption); (· walk_at "at"))
  | (with_reducible apply Bs.at_mut; (· walk_at "ne"); (· walk_at "at"))
  | (with_reducible apply Bs.at_same; (· assumption); (· walk_at "at")))
local macro_rules | `(tactic| walk_at "ne") => `(tactic| first
  | assumption
  | (apply Ne.symm; assumption)
  | (with_reducible apply Bs.ne_old; (· assumption); (· walk_at "at"))
  | (apply Ne.symm; (with_reducible apply Bs.ne_old; (· assumption); (· walk_at "at"))))
local macro_rules | `(tactic| walk_at "sq") => `(tactic| first
  | assumption
  | (with_reducible apply L2.SqL.of; walk_at "at")
  | (with_reducible apply Bs.sq_same; (· assumption); (· walk_at "same")))
local macro_rules | `(tactic| walk_at "tq") => `(tactic| first
  | assumption
  | (with_reducible apply L2.SqT.of; walk_at "at")
  | (with_reducible apply Bs.sqt_same; (· assumption); (· walk_at "same")))
local macro_rules | `(tactic| walk_at "rd") => `(tactic| first
  | assumption
  | (with_reducible apply L2.Rd.of; walk_at "at"))
local macro_rules | `(tactic| walk_at "om") => `(tactic| first
  | assumption
  | omega
  | (simp only [List.length_map, List.length_append, List.length_cons, List.length_nil, List.length_reverse, List.length_range, Bs.psums_length, Bs.psumsTo_length, Bs.lrow_length] at *; omega))
local macro_rules | `(tactic| walk_at "hc") => `(tactic| simp only [decide_eq_true_eq, decide_eq_false_iff_not, Bool.not_eq_true', Bool.not_eq_false', Bool.and_eq_true, Bool.or_eq_true, Bool.or_eq_false_iff, Bool.and_eq_false_iff, Bool.not_true, Bool.not_false, Int.not_lt, Int.not_le] at *)
local macro_rules | `(tactic| walk_at "stp") => `(tactic| first
  | (with_reducible apply Bs.wp_var; (· with_unfolding_all rfl))
  | with_reducible refine Bs.wp_c ?_
  | with_reducible refine Bs.wp_op ?_
  | with_reducible refine Bs.wp_cons ?_
  | with_reducible refine Bs.wp_nil ?_
  | with_reducible refine Bs.wp_seq ?_
  | with_reducible refine Bs.wp_asgN ?_
  | (with_reducible apply Bs.wp_kSet; (· (simp only [List.set_cons_succ, List.set_cons_zero]; exact rfl)))
  | with_reducible refine Bs.wp_nx ?_
  | with_reducible refine Bs.wp_next ?_
  | with_reducible refine Bs.wp_ret ?_
  | with_reducible refine Bs.wp_rt ?_
  | with_reducible refine Bs.wp_drop ?_
  | with_reducible refine Bs.wp_kDrop ?_
  | with_reducible refine Bs.wp_addI ?_
  | with_reducible refine Bs.wp_subI ?_
  | with_reducible refine Bs.wp_un ?_
  | with_reducible refine Bs.wp_negI ?_
  | with_reducible refine Bs.wp_ltI ?_
  | with_reducible refine Bs.wp_leI ?_
  | with_reducible refine Bs.wp_gtI ?_
  | with_reducible refine Bs.wp_geI ?_
  | with_reducible refine Bs.wp_eqI ?_
  | with_reducible refine Bs.wp_neI ?_
  | with_reducible refine Bs.wp_eqB ?_
  | with_reducible refine Bs.wp_neB ?_
  | with_reducible refine Bs.wp_isB ?_
  | with_reducible refine Bs.wp_ntB ?_
  | with_reducible refine Bs.wp_test ?_
  | with_reducible refine Bs.wp_tB ?_
  | with_reducible refine Bs.wp_kB ?_
  | with_reducible refine Bs.wp_not ?_
  | with_reducible refine Bs.kNot_t ?_
  | with_reducible refine Bs.kNot_f ?_
  | with_reducible refine Bs.wp_kNot ?_
  | with_reducible refine Bs.wp_and ?_
  | with_reducible refine Bs.wp_or ?_
  | with_reducible refine Bs.wp_andV ?_
  | with_reducible refine Bs.wp_orV ?_
  | with_reducible refine Bs.wp_notV ?_
  | with_reducible refine Bs.kNotV_t ?_
  | with_reducible refine Bs.kNotV_f ?_
  | with_reducible refine Bs.wp_kNotV ?_
  | with_reducible refine Bs.kOr_f ?_
  | with_reducible refine Bs.kOr_nt ?_
  | with_reducible refine Bs.kOr_t ?_
  | with_reducible refine Bs.kOr_nf ?_
  | with_reducible refine Bs.kAnd_t ?_
  | with_reducible refine Bs.kAnd_nf ?_
  | with_reducible refine Bs.kAnd_f ?_
  | with_reducible refine Bs.kAnd_nt ?_
  | with_reducible refine Bs.kOrV_f ?_
  | with_reducible refine Bs.kOrV_nt ?_
  | with_reducible refine Bs.kAndV_t ?_
  | with_reducible refine Bs.kAndV_nf ?_
  | with_reducible refine Bs.kAndV_f ?_
  | with_reducible refine Bs.kIfS_t ?_
  | with_reducible refine Bs.kIfS_nf ?_
  | with_reducible refine Bs.kIfS_f ?_
  | with_reducible refine Bs.kIfS_nt ?_
  | with_reducible refine Bs.wp_chain ?_
  | with_reducible refine Bs.wp_ifE ?_
  | with_reducible refine Bs.wp_ifS ?_
  | with_reducible refine Bs.wp_asg ?_
  | with_reducible refine Bs.wp_kAsg ?_
  | (with_reducible apply Bs.wp_modI; (· walk_at "om"))
  | (with_reducible apply Bs.wp_divI; (· walk_at "om"))
  | with_reducible refine Bs.wp_call ?_
  | with_reducible refine Bs.wp_kCall ?_
  | with_reducible refine Bs.wp_tCB ?_
  | with_reducible refine Bs.wp_kCB ?_
  | (with_reducible apply Bs.wp_lenI; (· walk_at "sq"))
  | (with_reducible apply Bs.wp_len; (· walk_at "sq"))
  | (with_reducible apply Bs.wp_sum; (· walk_at "sq"))
  | (with_reducible apply Bs.wp_ixL; (· walk_at "sq"); (· walk_at "om"); (· walk_at "om"))
  | (with_reducible apply Bs.wp_ixN; (· walk_at "sq"); (· walk_at "om"); (· walk_at "om"))
  | (with_reducible apply Bs.wp_appI; (· walk_at "at"); (· walk_at "om"))
  | (with_reducible apply Bs.wp_app; (· walk_at "at"); (· walk_at "om"))
  | with_reducible refine Bs.wp_tBM ?_
  | (with_reducible apply Bs.wp_kBM; (· walk_at "at"))
  | with_reducible refine Bs.wp_tBM0 ?_
  | (with_reducible apply Bs.wp_kBM0; (· walk_at "at"))
  | with_reducible refine Bs.wp_lst ?_
  | with_reducible refine Bs.wp_tup ?_
  | with_reducible refine Bs.wp_sl ?_
  | with_reducible refine Bs.wp_part ?_
  | with_reducible refine Bs.wp_kPart ?_
  | with_reducible refine Bs.wp_noPart ?_
  | with_reducible refine Bs.wp_rev ?_
  | with_reducible refine Bs.wp_max2 ?_
  | with_reducible refine Bs.wp_min2 ?_
  | (with_reducible apply Bs.wp_eqL; (· walk_at "sq"); (· walk_at "sq"))
  | (with_reducible apply Bs.wp_neL; (· walk_at "sq"); (· walk_at "sq"))
  | with_reducible refine Bs.wp_for ?_
  | with_reducible refine Bs.wp_lc ?_
  | with_reducible refine Bs.wp_tYes ?_
  | with_reducible refine Bs.wp_iList ?_
  | (with_reducible apply Bs.wp_kIList; (· walk_at "sq"))
  | with_reducible refine Bs.wp_iRng1 ?_
  | (with_reducible apply Bs.wp_kRng1; (· walk_at "om"))
  | with_reducible refine Bs.wp_iRng2 ?_
  | (with_reducible apply Bs.wp_kRng2; (· walk_at "om"); (· walk_at "om"))
  | with_reducible refine Bs.wp_iRevR1 ?_
  | (with_reducible apply Bs.wp_kRev1; (· walk_at "om"))
  | with_reducible refine Bs.wp_iEnum ?_
  | (with_reducible apply Bs.wp_kEnum; (· walk_at "sq"))
  | (with_reducible apply Bs.wp_gName; (· (simp only [List.set_cons_succ, List.set_cons_zero]; exact rfl)))
  | (with_reducible apply Bs.wp_gTup; (· walk_at "tq"); (· with_unfolding_all rfl))
  | with_reducible refine Bs.wp_gCons ?_
  | with_reducible refine Bs.wp_gNil ?_
  | (with_reducible apply Bs.wp_all; (· walk_at "at"))
  | (with_reducible apply Bs.wp_any; (· walk_at "at"))
  | with_reducible refine Bs.isi_int ?_
  | with_reducible refine Bs.isi_int_bool ?_
  | with_reducible refine Bs.isi_bool ?_
  | (with_reducible apply Bs.isi_list; (· walk_at "at"))
  | (with_reducible apply Bs.isi_tup; (· walk_at "at"))
  | with_reducible refine Bs.wp_dget2 ?_
  | (with_reducible apply Bs.wp_kD2; (· walk_at "at"); (· intro Q1 hq; (repeat walk_at "stp"); exact hq); (· intro Q1 hq; (repeat walk_at "stp"); exact hq))
  | with_reducible refine Bs.wp_dput ?_
  | with_reducible refine Bs.wp_kPut ?_
  | (with_reducible apply Bs.wp_kPut2; (· walk_at "at"); (· walk_at "om"))
  | with_reducible refine Bs.wp_dnew ?_
  | with_reducible refine Bs.wp_din ?_
  | with_reducible refine Bs.wp_dnin ?_
  | (with_reducible apply Bs.wp_kIn; (· walk_at "rd"))
  | (with_reducible apply Bs.wp_kNin; (· walk_at "rd"))
  | with_reducible refine Bs.wp_dget ?_
  | with_reducible refine Bs.wp_fld ?_
  | with_reducible refine Bs.call_is_number ?_
  | with_reducible refine Bs.call_is_there ?_
  | with_reducible refine Bs.call_l_there ?_
  | (with_reducible apply Bs.wp_kAnd; (· intro hc Q1 hq; (try walk_at "hc"); (repeat walk_at "stp"); exact hq))
  | (with_reducible apply Bs.wp_kOr; (· intro hc Q1 hq; (try walk_at "hc"); (repeat walk_at "stp"); exact hq))
  | (with_reducible apply Bs.wp_kAndV; (· intro hc Q1 hq; (try walk_at "hc"); (repeat walk_at "stp"); exact hq))
  | (with_reducible apply Bs.wp_kOrV; (· intro hc Q1 hq; (try walk_at "hc"); (repeat walk_at "stp"); exact hq))
  | (with_reducible apply Bs.wp_kChain; (· intro hc Q1 hq; (try walk_at "hc"); (repeat walk_at "stp"); exact hq)))
local macro_rules | `(tactic| walk_at "go") => `(tactic| repeat walk_at "stp")
namespace Bs
open PySem L2
theorem pure_l_numbers {K : PySem.W.Frag} {cs : Cs} {vs : List V} {H : Hp} {Q : VK} {E : XK} (h : sp_l_numbers K cs vs H Q E) : t_l_numbers K cs { nx := fun _ H' => Q .non H', rt := Q } (start N_l_numbers vs) H := by
  obtain ⟨a, ns, rfl, ha, hl, k⟩ := h
  unfold t_l_numbers
  show (_ : TS) _ [some (.ref a), none] H
  walk_at "go"
  refine lcI_bl (ns := ns) (fun _ => true) (by walk_at "sq") (by omega) (fun _ => rfl) (fun i H1 hi s1 Q' hq => ?_) (fun p H1 np s1 hp => ?_)
  · show (_ : TE) [some (.ref a), some (.int (nth ns i))] H1 Q'
    walk_at "go"
    exact hq _ (Same.refl _)
  · walk_at "go"
    have e : (List.map (fun _ => true) ns).all id = true := by simp
    rw [e]
    exact k _ s1
theorem pure_l_row {K : PySem.W.Frag} {cs : Cs} {vs : List V} {H : Hp} {Q : VK} {E : XK} (h : sp_l_row K cs vs H Q E) : t_l_row K cs { nx := fun _ H' => Q .non H', rt := Q } (start N_l_row vs) H := by
  obtain ⟨a, ns, rfl, ha, hl, k⟩ := h
  unfold t_l_row
  show (_ : TS) _ [some (.ref a), none, none] H
  walk_at "go"
  refine wp_kTup (by decide) fun p np => ?_
  walk_at "go"
  have h0 : 0 ≤ ns.sum % 4 := Int.emod_nonneg _ (by decide)
  have h1 : ns.sum % 4 < 4 := Int.emod_lt_of_pos _ (by decide)
  refine ⟨p, _, _, _, rfl, rfl, SqT.of upd_same, atI_nth (ns := [3, 10, 10, 1000000]) h0 h1, ?_⟩
  walk_at "go"
  have hm := lmost_cases ns
  show kLc _ _ _ _ [some (.ref a), some (.int (lmost ns)), none] _ _ _
  refine lcI_int (ns := ns) (fun c => c % (2 * lmost ns + 1) - lmost ns) (by walk_at "sq") (by omega) (fun _ => rfl) (fun i H1 hi s1 Q' hq => ?_) (fun p H1 np s1 hp => ?_)
  · show (_ : TE) [some (.ref a), some (.int (lmost ns)), some (.int (nth ns i))] H1 Q'
    walk_at "go"
    refine wp_mulI (.inl (by decide)) ?_
    walk_at "go"
    exact hq _ (Same.refl _)
  · walk_at "go"
    exact k p H1 (by walk_at "nn") (by walk_at "same") hp
theorem pure_l_sums {K : PySem.W.Frag} {cs : Cs} {vs : List V} {H : Hp} {Q : VK} {E : XK} (h : sp_l_sums K cs vs H Q E) : t_l_sums K cs { nx := fun _ H' => Q .non H', rt := Q } (start N_l_sums vs) H := by
  obtain ⟨a, ns, rfl, ha, hl, k⟩ := h
  unfold t_l_sums
  show (_ : TS) _ [some (.ref a), none, none] H
  walk_at "go"
  refine wp_lst1 fun p np => ?_
  walk_at "go"
  refine forI (ns := ns) (fun i σ H' => ∃ v, σ = [some (.ref a), some (.ref p), v] ∧ Same H H' ∧ H' p = some (.lst ((psumsTo ns i).map V.int))) ⟨_, rfl, by walk_at "same", by rw [psumsTo_zero]; exact upd_same⟩ (fun i σ H' _ h => ?_) (fun i σ H' hi h => ?_) (fun σ H' h => ?_)
  · obtain ⟨_, _, s, _⟩ := h
    walk_at "sq"
  · obtain ⟨_, rfl, s, hp⟩ := h
    walk_at "go"
    refine ⟨_, rfl, by walk_at "same", ?_⟩
    rw [psumsTo_succ hi]
    have e : nth (psumsTo ns i) (-1 + ((psumsTo ns i).length : Int)) = pre ns i := by
      rw [psumsTo_length, show (-1 + ((i + 1 : Nat) : Int)) = ((i : Nat) : Int) by omega, nth_psumsTo ns (Nat.le_refl _)]
    rw [e]
    exact upd_same
  · obtain ⟨_, rfl, s, hp⟩ := h
    walk_at "go"
    exact k p H' np s (by rw [hp, psumsTo_all])
theorem pure_is_number {K : PySem.W.Frag} {cs : Cs} {vs : List V} {H : Hp} {Q : VK} {E : XK} (h : sp_is_number K cs vs H Q E) : t_is_number K cs { nx := fun _ H' => Q .non H', rt := Q } (start N_is_number vs) H := by
  obtain ⟨i, rfl, k⟩ := h
  unfold t_is_number
  show (_ : TS) _ [some (.int i)] H
  walk_at "go"
  exact k
theorem pure_asked_row {K : PySem.W.Frag} {cs : Cs} {vs : List V} {H : Hp} {Q : VK} {E : XK} (h : sp_asked_row K cs vs H Q E) : t_asked_row K cs { nx := fun _ H' => Q .non H', rt := Q } (start N_asked_row vs) H := by
  obtain ⟨a, ns, rfl, ha, hr, hl, k⟩ := h
  unfold t_asked_row
  show (_ : TS) _ [some (.ref a), none] H
  walk_at "go"
  refine lcI_bl (ns := ns) (fun _ => true) (by walk_at "sq") (by omega) (fun _ => rfl) (fun i H1 hi s1 Q' hq => ?_) (fun p H1 np s1 hp => ?_)
  · have hb := hr _ (nth_mem hi)
    show (_ : TE) [some (.ref a), some (.int (nth ns i))] H1 Q'
    walk_at "go"
    have e : (decide (-1000000 ≤ nth ns ↑i) && decide (nth ns ↑i ≤ 1000000)) = true := by simp [hb.1, hb.2]
    rw [e]
    exact hq _ (Same.refl _)
  · walk_at "go"
    have e : (List.map (fun _ => true) ns).all id = true := by simp
    rw [e]
    walk_at "go"
    exact k _ s1
theorem pure_asked_total {K : PySem.W.Frag} {cs : Cs} {vs : List V} {H : Hp} {Q : VK} {E : XK} (h : sp_asked_total K cs vs H Q E) : t_asked_total K cs { nx := fun _ H' => Q .non H', rt := Q } (start N_asked_total vs) H := by
  obtain ⟨i, rfl, k⟩ := h
  unfold t_asked_total
  show (_ : TS) _ [some (.int i)] H
  walk_at "go"
  exact k
theorem pure_summed {K : PySem.W.Frag} {cs : Cs} {vs : List V} {H : Hp} {Q : VK} {E : XK} (h : sp_summed K cs vs H Q E) : t_summed K cs { nx := fun _ H' => Q .non H', rt := Q } (start N_summed vs) H := by
  obtain ⟨a, ns, rfl, ha, hl, k⟩ := h
  unfold t_summed
  show (_ : TS) _ [some (.ref a), none, none] H
  walk_at "go"
  refine wp_lst1 fun p np => ?_
  walk_at "go"
  refine forI (ns := ns) (fun i σ H' => ∃ v, σ = [some (.ref a), some (.ref p), v] ∧ Same H H' ∧ H' p = some (.lst ((psumsTo ns i).map V.int))) ⟨_, rfl, by walk_at "same", by rw [psumsTo_zero]; exact upd_same⟩ (fun i σ H' _ h => ?_) (fun i σ H' hi h => ?_) (fun σ H' h => ?_)
  · obtain ⟨_, _, s, _⟩ := h
    walk_at "sq"
  · obtain ⟨_, rfl, s, hp⟩ := h
    walk_at "go"
    refine ⟨_, rfl, by walk_at "same", ?_⟩
    rw [psumsTo_succ hi]
    have e : nth (psumsTo ns i) (-1 + ((psumsTo ns i).length : Int)) = pre ns i := by
      rw [psumsTo_length, show (-1 + ((i + 1 : Nat) : Int)) = ((i : Nat) : Int) by omega, nth_psumsTo ns (Nat.le_refl _)]
    rw [e]
    exact upd_same
  · obtain ⟨_, rfl, s, hp⟩ := h
    walk_at "go"
    exact k p H' np s (by rw [hp, psumsTo_all])
theorem pure_how_many {K : PySem.W.Frag} {cs : Cs} {vs : List V} {H : Hp} {Q : VK} {E : XK} (h : sp_how_many K cs vs H Q E) : t_how_many K cs { nx := fun _ H' => Q .non H', rt := Q } (start N_how_many vs) H := by
  obtain ⟨a, ns, t, rfl, ha, hr, hl, k⟩ := h
  unfold t_how_many
  show (_ : TS) _ [some (.ref a), some (.int t), none, none, none] H
  walk_at "go"
  refine ⟨a, ns, rfl, by walk_at "at", hr, hl, fun H1 s1 => ?_⟩
  walk_at "go"
  refine ⟨t, rfl, ?_⟩
  walk_at "go"
  intro d nd
  walk_at "go"
  refine ⟨a, ns, rfl, by walk_at "at", hl, fun p H2 np s2 hp => ?_⟩
  walk_at "go"
  have hz := psums_length ns
  have hd : H2 d = some (.dK []) := by walk_at "at"
  refine forI (ns := psums ns) (fun i σ H' => ∃ v kvs, σ = [some (.ref a), some (.int t), some (.ref d), some (.int (pairs t ((psums ns).take i))), v] ∧ H' p = some (.lst ((psums ns).map V.int)) ∧ Same H H' ∧ H' d = some (.dK kvs) ∧ CntD kvs ((psums ns).take i)) ⟨_, [], rfl, hp, by walk_at "same", hd, cntD_nil⟩ (fun i σ H' _ h => ?_) (fun i σ H' hi h => ?_) (fun σ H' h => ?_)
  · obtain ⟨_, _, _, hp, _⟩ := h
    walk_at "sq"
  · obtain ⟨_, kvs, rfl, hp, s, hd, hc⟩ := h
    have hk := hc.2
    rw [List.length_take] at hk
    have et : (psums ns).take (i + 1) = (psums ns).take i ++ [nth (psums ns) i] := by
      rw [List.take_add_one, List.getElem?_eq_getElem hi]
      simp [nth, hi]
    walk_at "go"
    rw [hc.1]
    walk_at "go"
    rw [hc.1]
    walk_at "go"
    refine ⟨_, _, by rw [et, pairs_snoc], ?_, ?_, upd_same, ?_⟩
    · have : p ≠ d := ne_of hp hd (by intro z; cases z)
      walk_at "at"
    · have : H d = none := by walk_at "nn"
      walk_at "same"
    · rw [et]
      refine cntD_put hc (fun v => ?_) (by simp)
      rw [List.count_append]
      simp only [List.count_cons, List.count_nil, beq_iff_eq]
      by_cases e : nth (psums ns) i = v
      · rw [if_pos e, if_pos e.symm]
      · rw [if_neg e, if_neg (fun z => e z.symm)]
  · obtain ⟨_, kvs, rfl, hp, s, hd, hc⟩ := h
    walk_at "go"
    rw [List.take_length]
    exact k _ s
theorem pure_sums {K : PySem.W.Frag} {cs : Cs} {vs : List V} {H : Hp} {Q : VK} {E : XK} (h : sp_sums K cs vs H Q E) : t_sums K cs { nx := fun _ H' => Q .non H', rt := Q } (start N_sums vs) H := by
  obtain ⟨a, ns, rfl, ha, hr, hl, k⟩ := h
  unfold t_sums
  show (_ : TS) _ [some (.ref a)] H
  walk_at "go"
  refine ⟨a, ns, rfl, by walk_at "at", hr, hl, fun H1 s1 => ?_⟩
  walk_at "go"
  refine ⟨a, ns, rfl, by walk_at "at", hl, fun p H2 np s2 hp => ?_⟩
  walk_at "go"
  exact k p H2 (by walk_at "nn") (by walk_at "same") hp
theorem pure_law_k05 {K : PySem.W.Frag} {cs : Cs} {vs : List V} {H : Hp} {Q : VK} {E : XK} (h : sp_law_k05 K cs vs H Q E) : t_law_k05 K cs { nx := fun _ H' => Q .non H', rt := Q } (start N_law_k05 vs) H := by
  obtain ⟨s, ns, rfl, hS, hl, k⟩ := h
  unfold t_law_k05
  show (_ : TS) _ [some (.ref s), none, none, none, none, none, none, none, none, none, none] H
  have hrow := lrow_row ns
  have hlen := lrow_length ns
  generalize erow : lrow ns = row at hrow hlen
  walk_at "go"
  refine ⟨s, ns, rfl, hS, by omega, ?_⟩
  rw [erow]
  intro r H1 nr s1 hr
  walk_at "go"
  refine wp_list (xs := row.map V.int) (by walk_at "sq") fun h nh => ?_
  walk_at "go"
  refine ⟨r, row, rfl, by walk_at "at", by omega, fun t H2 nt s2 ht => ?_⟩
  walk_at "go"
  have hr2 : H2 r = some (.lst (row.map V.int)) := by walk_at "at"
  have hh2 : H2 h = some (.lst (row.map V.int)) := by walk_at "at"
  have hz := psums_length row
  have hS2 : SqL K H2 s (ns.map V.int) := by walk_at "sq"
  refine forN (fun i σ H' => ∃ v w, σ = [some (.ref s), some (.ref r), some (.ref h), some (.ref t), v, none, w, none, none, none, none] ∧ Same H2 H') ⟨_, _, rfl, Same.refl _⟩ (fun i σ H3 hi h => ?_) (fun σ H3 h => ?_)
  · obtain ⟨v, w, rfl, s3⟩ := h
    walk_at "go"
    refine ⟨h, row, rfl, by walk_at "at", hrow, by omega, fun f H4 nf s4 hf => ?_⟩
    walk_at "go"
    refine ⟨f, psums row, rfl, by walk_at "at", by omega, fun H5 s5 => ?_⟩
    walk_at "go"
    simp only [decide_true, Bool.not_true, Bool.or_false]
    walk_at "go"
    exact ⟨_, _, rfl, by walk_at "same"⟩
  · obtain ⟨v, w, rfl, s3⟩ := h
    walk_at "go"
    refine wp_lst3 fun q nq => ?_
    walk_at "go"
    refine forI (ns := [0, 1, ns.sum % 9 - 4]) (fun i σ H' => ∃ v5 v7 v8 v9, σ = [some (.ref s), some (.ref r), some (.ref h), some (.ref t), v, v5, w, v7, v8, v9, none] ∧ Same (upd H3 q (.lst (([0, 1, ns.sum % 9 - 4] : List Int).map V.int))) H') ⟨_, _, _, _, rfl, Same.refl _⟩ (fun i σ H4 _ h => ?_) (fun i σ H4 hi h => ?_) (fun σ H4 h => ?_)
    · obtain ⟨_, _, _, _, _, s4⟩ := h
      walk_at "sq"
    · obtain ⟨_, _, _, _, rfl, s4⟩ := h
      generalize nth [0, 1, ns.sum % 9 - 4] (i : Int) = T
      have s24 : Same H2 H4 := by walk_at "same"
      walk_at "go"
      intro d nd
      walk_at "go"
      refine forRev (fun i σ H' => ∃ v9 kvs, σ = [some (.ref s), some (.ref r), some (.ref h), some (.ref t), v, some (.int T), w, some (.ref d), some (.int (pairs T ((psums row).drop ((psums row).length - i)))), v9, none] ∧ Same H4 H' ∧ H' d = some (.dK kvs) ∧ CntD kvs ((psums row).drop ((psums row).length - i)))
        ⟨_, [], by rw [Nat.sub_zero, List.drop_length]; rfl, by walk_at "same", upd_same, by rw [Nat.sub_zero, List.drop_length]; exact cntD_nil⟩ (fun i σ H5 hi h => ?_) (fun σ H5 h => ?_)
      · obtain ⟨_, kvs, rfl, s5, hd, hc⟩ := h
        have hk := hc.2
        rw [List.length_drop] at hk
        have ht5 : H5 t = some (.lst ((psums row).map V.int)) := by walk_at "at"
        have hlt : (psums row).length - 1 - i < (psums row).length := by omega
        have ed : (psums row).drop ((psums row).length - (i + 1)) = nth (psums row) ((psums row).length - 1 - i : Nat) :: (psums row).drop ((psums row).length - i) := by
          rw [show (psums row).length - (i + 1) = (psums row).length - 1 - i by omega, List.drop_eq_getElem_cons hlt, show (psums row).length - 1 - i + 1 = (psums row).length - i by omega]
          simp [nth, hlt]
        walk_at "go"
        rw [hc.1]
        walk_at "go"
        rw [hc.1]
        walk_at "go"
        refine ⟨some (.int ((psums row).length - 1 - i : Nat)), _, ?_, by walk_at "same", upd_same, ?_⟩
        · rw [ed, pairs, Int.add_comm (pairs T _)]
        · rw [ed]
          refine cntD_put hc (fun v => ?_) (by simp)
          rw [List.count_cons]
          simp only [beq_iff_eq]
          by_cases e : nth (psums row) ((psums row).length - 1 - i : Nat) = v
          · rw [if_pos e, if_pos e.symm]
          · rw [if_neg e, if_neg (fun z => e z.symm)]
      · obtain ⟨_, kvs, rfl, s5, hd, hc⟩ := h
        rw [Nat.sub_self, List.drop_zero]
        walk_at "go"
        refine ⟨h, row, T, rfl, by walk_at "at", hrow, by omega, fun H6 s6 => ?_⟩
        walk_at "go"
        have e : (!decide (cntOf row T = pairs T (psums row))) = false := by simp [cntOf]
        rw [e]
        walk_at "go"
        refine wp_revI (ns := row) (by walk_at "sq") fun b nb => ?_
        walk_at "go"
        refine ⟨b, row.reverse, T, rfl, by walk_at "at", hrow.rev, by rw [List.length_reverse]; omega, fun H7 s7 => ?_⟩
        walk_at "go"
        have e : (!decide (cntOf row.reverse T = pairs T (psums row))) = false := by rw [cntOf_rev]; simp [cntOf]
        rw [e]
        walk_at "go"
        refine lcI_int (ns := row) (fun x => -x) (by walk_at "sq") (by omega) (fun _ => rfl) (fun j H8 hj s8 Q' hq => ?_) (fun b2 H8 nb2 s8 hb2 => ?_)
        · show (_ : TE) [some (.ref s), some (.ref r), some (.ref h), some (.ref t), v, some (.int T), w, some (.ref d), some (.int (pairs T (psums row))), _, some (.int (nth row j))] H8 Q'
          walk_at "go"
          exact hq _ (Same.refl _)
        · walk_at "go"
          refine ⟨b2, row.map (- ·), -T, rfl, by walk_at "at", hrow.neg, by rw [List.length_map]; omega, fun H9 s9 => ?_⟩
          walk_at "go"
          have e : (!decide (cntOf (row.map (- ·)) (-T) = pairs T (psums row))) = false := by rw [cntOf_neg]; simp [cntOf]
          rw [e]
          walk_at "go"
          simp only [decide_true, Bool.not_true]
          walk_at "go"
          exact ⟨_, _, _, _, rfl, by walk_at "same"⟩
    · obtain ⟨_, _, _, _, rfl, s4⟩ := h
      walk_at "go"
      exact k _
end Bs
namespace Bs
open PySem L2
def top (i : Nat) : Stmt := PySem.Challenge.pw_beststretch_k05_sums.main.body.getD i (.Pass ⟨0, 0, 0, 0⟩)
abbrev s_l_numbers : Stmt := top 16
theorem sc_l_numbers : FnScope N_l_numbers (["_law_found"] : List Str) (defScope s_l_numbers) := ⟨rfl, rfl, rfl, by decide +kernel, rfl, by decide +kernel, by decide +kernel⟩
abbrev s_l_row : Stmt := top 14
theorem sc_l_row : FnScope N_l_row (["_law_script"] : List Str) (defScope s_l_row) := ⟨rfl, rfl, rfl, by decide +kernel, rfl, by decide +kernel, by decide +kernel⟩
abbrev s_l_sums : Stmt := top 15
theorem sc_l_sums : FnScope N_l_sums (["_law_row_here"] : List Str) (defScope s_l_sums) := ⟨rfl, rfl, rfl, by decide +kernel, rfl, by decide +kernel, by decide +kernel⟩
abbrev s_is_number : Stmt := top 6
theorem sc_is_number : FnScope N_is_number (["thing"] : List Str) (defScope s_is_number) := ⟨rfl, rfl, rfl, by decide +kernel, rfl, by decide +kernel, by decide +kernel⟩
abbrev s_asked_row : Stmt := top 7
theorem sc_asked_row : FnScope N_asked_row (["row"] : List Str) (defScope s_asked_row) := ⟨rfl, rfl, rfl, by decide +kernel, rfl, by decide +kernel, by decide +kernel⟩
abbrev s_asked_total : Stmt := top 8
theorem sc_asked_total : FnScope N_asked_total (["total"] : List Str) (defScope s_asked_total) := ⟨rfl, rfl, rfl, by decide +kernel, rfl, by decide +kernel, by decide +kernel⟩
abbrev s_summed : Stmt := top 9
theorem sc_summed : FnScope N_summed (["row"] : List Str) (defScope s_summed) := ⟨rfl, rfl, rfl, by decide +kernel, rfl, by decide +kernel, by decide +kernel⟩
abbrev s_how_many : Stmt := top 12
theorem sc_how_many : FnScope N_how_many (["row", "total"] : List Str) (defScope s_how_many) := ⟨rfl, rfl, rfl, by decide +kernel, rfl, by decide +kernel, by decide +kernel⟩
abbrev s_sums : Stmt := top 10
theorem sc_sums : FnScope N_sums (["row"] : List Str) (defScope s_sums) := ⟨rfl, rfl, rfl, by decide +kernel, rfl, by decide +kernel, by decide +kernel⟩
abbrev s_law_k05 : Stmt := top 17
theorem sc_law_k05 : FnScope N_law_k05 (["_law_script"] : List Str) (defScope s_law_k05) := ⟨rfl, rfl, rfl, by decide +kernel, rfl, by decide +kernel, by decide +kernel⟩
structure Txt (K : PySem.W.Frag) (mg : Str → Option Value) (cs : Cs) where
  n_all : mg "all" = none
  n_bool : mg "bool" = none
  n_int : mg "int" = none
  n_isinstance : mg "isinstance" = none
  n_len : mg "len" = none
  n_list : mg "list" = none
  n_range : mg "range" = none
  n_reversed : mg "reversed" = none
  n_sum : mg "sum" = none
  k_FARTHEST : Tok
  g_FARTHEST : mg "FARTHEST" = some (.int 1000000 k_FARTHEST)
  f_l_numbers : Addr
  d_l_numbers : FuncData
  F_l_numbers : Fun K "_law_numbers" "_law_numbers" s_l_numbers f_l_numbers d_l_numbers
  b_l_numbers : Binds K d_l_numbers (["_law_found"] : List Str) []
  g_l_numbers : mg "_law_numbers" = some (.ref f_l_numbers)
  f_l_row : Addr
  d_l_row : FuncData
  F_l_row : Fun K "_law_row" "_law_row" s_l_row f_l_row d_l_row
  b_l_row : Binds K d_l_row (["_law_script"] : List Str) []
  g_l_row : mg "_law_row" = some (.ref f_l_row)
  f_l_sums : Addr
  d_l_sums : FuncData
  F_l_sums : Fun K "_law_sums" "_law_sums" s_l_sums f_l_sums d_l_sums
  b_l_sums : Binds K d_l_sums (["_law_row_here"] : List Str) []
  g_l_sums : mg "_law_sums" = some (.ref f_l_sums)
  f_is_number : Addr
  d_is_number : FuncData
  F_is_number : Fun K "is_number" "is_number" s_is_number f_is_number d_is_number
  b_is_number : Binds K d_is_number (["thing"] : List Str) []
  g_is_number : mg "is_number" = some (.ref f_is_number)
  f_asked_row : Addr
  d_asked_row : FuncData
  F_asked_row : Fun K "asked_row" "asked_row" s_asked_row f_asked_row d_asked_row
  b_asked_row : Binds K d_asked_row (["row"] : List Str) []
  g_asked_row : mg "asked_row" = some (.ref f_asked_row)
  f_asked_total : Addr
  d_asked_total : FuncData
  F_asked_total : Fun K "asked_total" "asked_total" s_asked_total f_asked_total d_asked_total
  b_asked_total : Binds K d_asked_total (["total"] : List Str) []
  g_asked_total : mg "asked_total" = some (.ref f_asked_total)
  f_summed : Addr
  d_summed : FuncData
  F_summed : Fun K "summed" "summed" s_summed f_summed d_summed
  b_summed : Binds K d_summed (["row"] : List Str) []
  g_summed : mg "summed" = some (.ref f_summed)
  f_how_many : Addr
  d_how_many : FuncData
  F_how_many : Fun K "how_many" "how_many" s_how_many f_how_many d_how_many
  b_how_many : Binds K d_how_many (["row", "total"] : List Str) []
  g_how_many : mg "how_many" = some (.ref f_how_many)
  f_sums : Addr
  d_sums : FuncData
  F_sums : Fun K "sums" "sums" s_sums f_sums d_sums
  b_sums : Binds K d_sums (["row"] : List Str) []
  g_sums : mg "sums" = some (.ref f_sums)
  f_law_k05 : Addr
  d_law_k05 : FuncData
  F_law_k05 : Fun K "law" "law" s_law_k05 f_law_k05 d_law_k05
  b_law_k05 : Binds K d_law_k05 (["_law_script"] : List Str) []
  g_law_k05 : mg "law" = some (.ref f_law_k05)
section
variable {P : Program} {w : World} {K : PySem.W.Frag} {mg : Str → Option Value} {base : Heap} {cs : Cs}
theorem ok_l_numbers (T : Txt K mg cs) : FnOk P w K mg base CX0 1 T.f_l_numbers T.d_l_numbers (["_law_found"] : List Str) (sp_l_numbers K cs) := by
  refine T.F_l_numbers.ok sc_l_numbers (fun vs H Q E h => len_l_numbers h) (fun cdv A outer s H vs Q E hr h => ⟨t_l_numbers K cs, ?_, pure_l_numbers  h⟩)
  have hu := hu_of hr
  exact (pss_cons (ps_if (pt_not (pt_val (pe_callB call_isi (by rfl) T.n_isinstance (by decide +kernel) (pa_cons (pv 0) (pa_cons (pe_bltn (by rfl) T.n_list (by decide +kernel) rfl) pa_nil))))) (pss_one (ps_ret pe_bl)) pss_nil)
  (pss_one (ps_ret (pe_callB (cr_all rfl) (by rfl) T.n_all (by decide +kernel) (pa_cons (pe_lc (own := [("_law_one", 1)]) rfl sc_l_numbers.nd (pi_list (pv 0)) (blkOk_by (own := [("_law_one", 1)]) (N := N_l_numbers) (sc := defScope s_l_numbers) (by decide +kernel)) (fun _ _ _ _ _ => (pg_name (i := 1) sc_l_numbers.nd rfl (Or.inl rfl))) (fun _ _ _ _ _ => pts_nil) (fun _ _ _ _ _ => (pe_and (pe_callB call_isi (by rfl) T.n_isinstance (by decide +kernel) (pa_cons (pv 1) (pa_cons (pe_bltn (by rfl) T.n_int (by decide +kernel) rfl) pa_nil))) (pe_one (pe_not (pe_callB call_isi (by rfl) T.n_isinstance (by decide +kernel) (pa_cons (pv 1) (pa_cons (pe_bltn (by rfl) T.n_bool (by decide +kernel) rfl) pa_nil)))))))) pa_nil)))))
theorem ok_l_row (T : Txt K mg cs) : FnOk P w K mg base CX0 1 T.f_l_row T.d_l_row (["_law_script"] : List Str) (sp_l_row K cs) := by
  refine T.F_l_row.ok sc_l_row (fun vs H Q E h => len_l_row h) (fun cdv A outer s H vs Q E hr h => ⟨t_l_row K cs, ?_, pure_l_row  h⟩)
  have hu := hu_of hr
  exact (pss_cons (ps_set (i := 1) sc_l_row.nd rfl (Or.inr rfl) (pe_ix ix_tup (pe_tup (pa_cons pe_int (pa_cons pe_int (pa_cons pe_int (pa_cons pe_int pa_nil))))) (pe_op op_modI (pe_callB (cr_sum rfl) (by rfl) T.n_sum (by decide +kernel) (pa_cons (pv 0) pa_nil)) pe_int) (fun _ _ => rfl)))
  (pss_one (ps_ret (pe_lc (own := [("_law_cell", 2)]) rfl sc_l_row.nd (pi_list (pv 0)) (blkOk_by (own := [("_law_cell", 2)]) (N := N_l_row) (sc := defScope s_l_row) (by decide +kernel)) (fun _ _ _ _ _ => (pg_name (i := 2) sc_l_row.nd rfl (Or.inl rfl))) (fun _ _ _ _ _ => pts_nil) (fun _ _ _ _ _ => (pe_op op_subI (pe_op op_modI (pv 2) (pe_op op_addI (pe_op op_mulI pe_int (pv 1)) pe_int)) (pv 1)))))))
theorem ok_l_sums (T : Txt K mg cs) : FnOk P w K mg base CX0 1 T.f_l_sums T.d_l_sums (["_law_row_here"] : List Str) (sp_l_sums K cs) := by
  refine T.F_l_sums.ok sc_l_sums (fun vs H Q E h => len_l_sums h) (fun cdv A outer s H vs Q E hr h => ⟨t_l_sums K cs, ?_, pure_l_sums  h⟩)
  have hu := hu_of hr
  exact (pss_cons (ps_set (i := 1) sc_l_sums.nd rfl (Or.inl rfl) (pe_lst (pa_cons pe_int pa_nil)))
  (pss_cons (ps_for PassesOwn.never rfl (pi_list (pv 0)) (pg_name (i := 2) sc_l_sums.nd rfl (Or.inl rfl)) (pss_one (ps_expr (pe_bm PySem.F.plainAttrs_list PySem.F.slot_list_append PySem.F.type_list_append mt_append (pv 1) (pa_cons (pe_op op_addI (pe_ix ix_list (pv 1) (pe_un un_negI pe_int) (fun _ _ => rfl)) (pv 2)) pa_nil)))))
  (pss_one (ps_ret (pv 1)))))
theorem ok_is_number (T : Txt K mg cs) : FnOk P w K mg base CX0 1 T.f_is_number T.d_is_number (["thing"] : List Str) (sp_is_number K cs) := by
  refine T.F_is_number.ok sc_is_number (fun vs H Q E h => len_is_number h) (fun cdv A outer s H vs Q E hr h => ⟨t_is_number K cs, ?_, pure_is_number  h⟩)
  have hu := hu_of hr
  exact (pss_one (ps_ret (pe_and (pe_callB call_isi (by rfl) T.n_isinstance (by decide +kernel) (pa_cons (pv 0) (pa_cons (pe_bltn (by rfl) T.n_int (by decide +kernel) rfl) pa_nil))) (pe_one (pe_not (pe_callB call_isi (by rfl) T.n_isinstance (by decide +kernel) (pa_cons (pv 0) (pa_cons (pe_bltn (by rfl) T.n_bool (by decide +kernel) rfl) pa_nil))))))))
theorem ok_asked_row (T : Txt K mg cs) : FnOk P w K mg base CX0 2 T.f_asked_row T.d_asked_row (["row"] : List Str) (sp_asked_row K cs) := by
  refine T.F_asked_row.ok sc_asked_row (fun vs H Q E h => len_asked_row h) (fun cdv A outer s H vs Q E hr h => ⟨t_asked_row K cs, ?_, pure_asked_row  h⟩)
  have hu := hu_of hr
  exact (pss_one (ps_if (PW.pt (pw_or (pt_not (pt_val (pe_callB call_isi (by rfl) T.n_isinstance (by decide +kernel) (pa_cons (pv 0) (pa_cons (pe_bltn (by rfl) T.n_list (by decide +kernel) rfl) pa_nil))))) (pw_or1 (pt_not (pt_val (pe_callB (cr_all rfl) (by rfl) T.n_all (by decide +kernel) (pa_cons (pe_lc (own := [("one", 1)]) rfl sc_asked_row.nd (pi_list (pv 0)) (blkOk_by (own := [("one", 1)]) (N := N_asked_row) (sc := defScope s_asked_row) (by decide +kernel)) (fun _ _ _ _ _ => (pg_name (i := 1) sc_asked_row.nd rfl (Or.inl rfl))) (fun _ _ _ _ _ => pts_nil) (fun _ _ _ _ _ => (pe_and (pe_call (ok_is_number T) (hr.mono (by decide)) rfl T.g_is_number T.F_is_number.kp T.b_is_number .nil pass0 (pa_cons (pv 1) pa_nil)) (pe_one (pe_chain op_leI op_leI (pe_un un_negI (pe_glob rfl T.g_FARTHEST ⟨_, rfl⟩)) (pv 1) (pe_glob rfl T.g_FARTHEST ⟨_, rfl⟩)))))) pa_nil))))))) (pss_one ps_never) pss_nil))
theorem ok_asked_total (T : Txt K mg cs) : FnOk P w K mg base CX0 2 T.f_asked_total T.d_asked_total (["total"] : List Str) (sp_asked_total K cs) := by
  refine T.F_asked_total.ok sc_asked_total (fun vs H Q E h => len_asked_total h) (fun cdv A outer s H vs Q E hr h => ⟨t_asked_total K cs, ?_, pure_asked_total  h⟩)
  have hu := hu_of hr
  exact (pss_one (ps_if (pt_not (pt_val (pe_call (ok_is_number T) (hr.mono (by decide)) rfl T.g_is_number T.F_is_number.kp T.b_is_number .nil pass0 (pa_cons (pv 0) pa_nil)))) (pss_one ps_never) pss_nil))
theorem ok_summed (T : Txt K mg cs) : FnOk P w K mg base CX0 1 T.f_summed T.d_summed (["row"] : List Str) (sp_summed K cs) := by
  refine T.F_summed.ok sc_summed (fun vs H Q E h => len_summed h) (fun cdv A outer s H vs Q E hr h => ⟨t_summed K cs, ?_, pure_summed  h⟩)
  have hu := hu_of hr
  exact (pss_cons (ps_set (i := 1) sc_summed.nd rfl (Or.inl rfl) (pe_lst (pa_cons pe_int pa_nil)))
  (pss_cons (ps_for PassesOwn.never rfl (pi_list (pv 0)) (pg_name (i := 2) sc_summed.nd rfl (Or.inl rfl)) (pss_one (ps_expr (pe_bm PySem.F.plainAttrs_list PySem.F.slot_list_append PySem.F.type_list_append mt_append (pv 1) (pa_cons (pe_op op_addI (pe_ix ix_list (pv 1) (pe_un un_negI pe_int) (fun _ _ => rfl)) (pv 2)) pa_nil)))))
  (pss_one (ps_ret (pv 1)))))
theorem ok_how_many (T : Txt K mg cs) : FnOk P w K mg base CX0 3 T.f_how_many T.d_how_many (["row", "total"] : List Str) (sp_how_many K cs) := by
  refine T.F_how_many.ok sc_how_many (fun vs H Q E h => len_how_many h) (fun cdv A outer s H vs Q E hr h => ⟨t_how_many K cs, ?_, pure_how_many  h⟩)
  have hu := hu_of hr
  exact (pss_cons (ps_expr (pe_call (ok_asked_row T) (hr.mono (by decide)) rfl T.g_asked_row T.F_asked_row.kp T.b_asked_row .nil pass0 (pa_cons (pv 0) pa_nil)))
  (pss_cons (ps_expr (pe_call (ok_asked_total T) (hr.mono (by decide)) rfl T.g_asked_total T.F_asked_total.kp T.b_asked_total .nil pass0 (pa_cons (pv 1) pa_nil)))
  (pss_cons (ps_set (i := 2) sc_how_many.nd rfl (Or.inl rfl) pe_dnewK)
  (pss_cons (ps_set (i := 3) sc_how_many.nd rfl (Or.inl rfl) pe_int)
  (pss_cons (ps_for PassesOwn.never rfl (pi_list (pe_call (ok_summed T) (hr.mono (by decide)) rfl T.g_summed T.F_summed.kp T.b_summed .nil pass0 (pa_cons (pv 0) pa_nil))) (pg_name (i := 4) sc_how_many.nd rfl (Or.inl rfl)) (pss_cons (ps_set (i := 3) sc_how_many.nd rfl (Or.inl rfl) (pe_op op_addI (pv 3) (pe_dget2 hu (pv 2) (pe_op op_subI (pv 4) (pv 1)) pe_int ⟨by rfl, by rfl, by rfl, by rfl⟩)))
  (pss_one (ps_dput hu (pv 2) (pv 4) (pe_op op_addI (pe_dget2 hu (pv 2) (pv 4) pe_int ⟨by rfl, by rfl, by rfl, by rfl⟩) pe_int) rfl))))
  (pss_one (ps_ret (pv 3))))))))
theorem ok_sums (T : Txt K mg cs) : FnOk P w K mg base CX0 3 T.f_sums T.d_sums (["row"] : List Str) (sp_sums K cs) := by
  refine T.F_sums.ok sc_sums (fun vs H Q E h => len_sums h) (fun cdv A outer s H vs Q E hr h => ⟨t_sums K cs, ?_, pure_sums  h⟩)
  have hu := hu_of hr
  exact (pss_cons (ps_expr (pe_call (ok_asked_row T) (hr.mono (by decide)) rfl T.g_asked_row T.F_asked_row.kp T.b_asked_row .nil pass0 (pa_cons (pv 0) pa_nil)))
  (pss_one (ps_ret (pe_call (ok_summed T) (hr.mono (by decide)) rfl T.g_summed T.F_summed.kp T.b_summed .nil pass0 (pa_cons (pv 0) pa_nil)))))
theorem ok_law_k05 (T : Txt K mg cs) : FnOk P w K mg base CX0 4 T.f_law_k05 T.d_law_k05 (["_law_script"] : List Str) (sp_law_k05 K cs) := by
  refine T.F_law_k05.ok sc_law_k05 (fun vs H Q E h => len_law_k05 h) (fun cdv A outer s H vs Q E hr h => ⟨t_law_k05 K cs, ?_, pure_law_k05  h⟩)
  have hu := hu_of hr
  exact (pss_cons (ps_set (i := 1) sc_law_k05.nd rfl (Or.inl rfl) (pe_call (ok_l_row T) (hr.mono (by decide)) rfl T.g_l_row T.F_l_row.kp T.b_l_row .nil pass0 (pa_cons (pv 0) pa_nil)))
  (pss_cons (ps_set (i := 2) sc_law_k05.nd rfl (Or.inl rfl) (pe_callTy c_list (by rfl) T.n_list (by decide +kernel) (pa_cons (pv 1) pa_nil)))
  (pss_cons (ps_set (i := 3) sc_law_k05.nd rfl (Or.inl rfl) (pe_call (ok_l_sums T) (hr.mono (by decide)) rfl T.g_l_sums T.F_l_sums.kp T.b_l_sums .nil pass0 (pa_cons (pv 1) pa_nil)))
  (pss_cons (ps_for PassesOwn.never rfl (pi_range1 (by rfl) T.n_range (pa_cons pe_int pa_nil)) (pg_name (i := 4) sc_law_k05.nd rfl (Or.inl rfl)) (pss_cons (ps_set (i := 6) sc_law_k05.nd rfl (Or.inl rfl) (pe_call (ok_sums T) (hr.mono (by decide)) rfl T.g_sums T.F_sums.kp T.b_sums .nil pass0 (pa_cons (pv 2) pa_nil)))
  (pss_cons (ps_if (PW.pt (pw_or (pt_not (pt_val (pe_call (ok_l_numbers T) (hr.mono (by decide)) rfl T.g_l_numbers T.F_l_numbers.kp T.b_l_numbers .nil pass0 (pa_cons (pv 6) pa_nil)))) (pw_or (pt_cmpR (op_neD hr.units) (pv 6) (pv 3) (nomark _)) (pw_or1 (pt_cmpR (op_neD hr.units) (pv 2) (pv 1) (nomark _)))))) (pss_one (ps_ret pe_bl)) pss_nil)
  (pss_one (ps_expr (pe_bm PySem.F.plainAttrs_list PySem.F.slot_list_append PySem.F.type_list_append mt_append (pv 6) (pa_cons pe_int pa_nil)))))))
  (pss_cons (ps_for PassesOwn.never rfl (pi_list (pe_lst (pa_cons pe_int (pa_cons pe_int (pa_cons (pe_op op_subI (pe_op op_modI (pe_callB (cr_sum rfl) (by rfl) T.n_sum (by decide +kernel) (pa_cons (pv 0) pa_nil)) pe_int) pe_int) pa_nil))))) (pg_name (i := 5) sc_law_k05.nd rfl (Or.inl rfl)) (pss_cons (ps_set (i := 7) sc_law_k05.nd rfl (Or.inl rfl) pe_dnewK)
  (pss_cons (ps_set (i := 8) sc_law_k05.nd rfl (Or.inl rfl) pe_int)
  (pss_cons (ps_for PassesOwn.never rfl (pi_revR (by rfl) T.n_reversed (prg_1 (by rfl) T.n_range (pe_callB c_len (by rfl) T.n_len (by decide +kernel) (pa_cons (pv 3) pa_nil)))) (pg_name (i := 9) sc_law_k05.nd rfl (Or.inl rfl)) (pss_cons (ps_set (i := 8) sc_law_k05.nd rfl (Or.inl rfl) (pe_op op_addI (pv 8) (pe_dget2 hu (pv 7) (pe_op op_addI (pe_ix ix_list (pv 3) (pv 9) (fun _ _ => rfl)) (pv 5)) pe_int ⟨by rfl, by rfl, by rfl, by rfl⟩)))
  (pss_one (ps_dput hu (pv 7) (pe_ix ix_list (pv 3) (pv 9) (fun _ _ => rfl)) (pe_op op_addI (pe_dget2 hu (pv 7) (pe_ix ix_list (pv 3) (pv 9) (fun _ _ => rfl)) pe_int ⟨by rfl, by rfl, by rfl, by rfl⟩) pe_int) rfl))))
  (pss_cons (ps_if (PW.pt (pw_or (pt_cmpR op_ne (pe_call (ok_how_many T) (hr.mono (by decide)) rfl T.g_how_many T.F_how_many.kp T.b_how_many .nil pass0 (pa_cons (pv 2) (pa_cons (pv 5) pa_nil))) (pv 8) (nomark _)) (pw_or1 (pt_cmpR op_ne (pe_call (ok_how_many T) (hr.mono (by decide)) rfl T.g_how_many T.F_how_many.kp T.b_how_many .nil pass0 (pa_cons (pe_revL (pv 1)) (pa_cons (pv 5) pa_nil))) (pv 8) (nomark _))))) (pss_one (ps_ret pe_bl)) pss_nil)
  (pss_one (ps_if (PW.pt (pw_or (pt_cmpR op_ne (pe_call (ok_how_many T) (hr.mono (by decide)) rfl T.g_how_many T.F_how_many.kp T.b_how_many .nil pass0 (pa_cons (pe_lc (own := [("_law_one", 10)]) rfl sc_law_k05.nd (pi_list (pv 1)) (blkOk_by (own := [("_law_one", 10)]) (N := N_law_k05) (sc := defScope s_law_k05) (by decide +kernel)) (fun _ _ _ _ _ => (pg_name (i := 10) sc_law_k05.nd rfl (Or.inl rfl))) (fun _ _ _ _ _ => pts_nil) (fun _ _ _ _ _ => (pe_un un_negI (pv 10)))) (pa_cons (pe_un un_negI (pv 5)) pa_nil))) (pv 8) (nomark _)) (pw_or1 (pt_cmpR (op_neD hr.units) (pv 2) (pv 1) (nomark _))))) (pss_one (ps_ret pe_bl)) pss_nil)))))))
  (pss_one (ps_ret pe_bl)))))))
end
def txt_mk {K : PySem.W.Frag} {h : Heap} {mg : Str → Option Value} (X : K.In h) (G : h.Ns mainGlobals mg)
    {tk_FARTHEST : Tok}
    {f_l_numbers : Addr} {od_l_numbers an_l_numbers : Option Addr} {sl_l_numbers : Array (Option Value)} {oc_l_numbers kV_l_numbers dc_l_numbers pm_l_numbers cd_l_numbers ct_l_numbers : Value}
    {f_l_row : Addr} {od_l_row an_l_row : Option Addr} {sl_l_row : Array (Option Value)} {oc_l_row kV_l_row dc_l_row pm_l_row cd_l_row ct_l_row : Value}
    {f_l_sums : Addr} {od_l_sums an_l_sums : Option Addr} {sl_l_sums : Array (Option Value)} {oc_l_sums kV_l_sums dc_l_sums pm_l_sums cd_l_sums ct_l_sums : Value}
    {f_is_number : Addr} {od_is_number an_is_number : Option Addr} {sl_is_number : Array (Option Value)} {oc_is_number kV_is_number dc_is_number pm_is_number cd_is_number ct_is_number : Value}
    {f_asked_row : Addr} {od_asked_row an_asked_row : Option Addr} {sl_asked_row : Array (Option Value)} {oc_asked_row kV_asked_row dc_asked_row pm_asked_row cd_asked_row ct_asked_row : Value}
    {f_asked_total : Addr} {od_asked_total an_asked_total : Option Addr} {sl_asked_total : Array (Option Value)} {oc_asked_total kV_asked_total dc_asked_total pm_asked_total cd_asked_total ct_asked_total : Value}
    {f_summed : Addr} {od_summed an_summed : Option Addr} {sl_summed : Array (Option Value)} {oc_summed kV_summed dc_summed pm_summed cd_summed ct_summed : Value}
    {f_how_many : Addr} {od_how_many an_how_many : Option Addr} {sl_how_many : Array (Option Value)} {oc_how_many kV_how_many dc_how_many pm_how_many cd_how_many ct_how_many : Value}
    {f_sums : Addr} {od_sums an_sums : Option Addr} {sl_sums : Array (Option Value)} {oc_sums kV_sums dc_sums pm_sums cd_sums ct_sums : Value}
    {f_law_k05 : Addr} {od_law_k05 an_law_k05 : Option Addr} {sl_law_k05 : Array (Option Value)} {oc_law_k05 kV_law_k05 dc_law_k05 pm_law_k05 cd_law_k05 ct_law_k05 : Value}
    (z_all : PySem.W.nsIn K mainGlobals "all" = some none)
    (z_bool : PySem.W.nsIn K mainGlobals "bool" = some none)
    (z_int : PySem.W.nsIn K mainGlobals "int" = some none)
    (z_isinstance : PySem.W.nsIn K mainGlobals "isinstance" = some none)
    (z_len : PySem.W.nsIn K mainGlobals "len" = some none)
    (z_list : PySem.W.nsIn K mainGlobals "list" = some none)
    (z_range : PySem.W.nsIn K mainGlobals "range" = some none)
    (z_reversed : PySem.W.nsIn K mainGlobals "reversed" = some none)
    (z_sum : PySem.W.nsIn K mainGlobals "sum" = some none)
    (c_FARTHEST : PySem.W.nsIn K mainGlobals "FARTHEST" = some (some (.int 1000000 tk_FARTHEST)))
    (a_l_numbers : PySem.W.nsIn K mainGlobals "_law_numbers" = some (some (.ref f_l_numbers)))
    (l_l_numbers : K.lookup f_l_numbers = some ⟨oc_l_numbers, od_l_numbers, .func (PySem.W.fnOf "_law_numbers" "_law_numbers" (defArgs s_l_numbers) (defBody s_l_numbers) (defScope s_l_numbers) .none kV_l_numbers dc_l_numbers pm_l_numbers an_l_numbers cd_l_numbers ct_l_numbers), sl_l_numbers⟩)
    (c_l_numbers : PySem.W.codeIn K cd_l_numbers "_law_numbers" = true)
    (k_l_numbers : PySem.W.keepIn K (.ref f_l_numbers) = true)
    (a_l_row : PySem.W.nsIn K mainGlobals "_law_row" = some (some (.ref f_l_row)))
    (l_l_row : K.lookup f_l_row = some ⟨oc_l_row, od_l_row, .func (PySem.W.fnOf "_law_row" "_law_row" (defArgs s_l_row) (defBody s_l_row) (defScope s_l_row) .none kV_l_row dc_l_row pm_l_row an_l_row cd_l_row ct_l_row), sl_l_row⟩)
    (c_l_row : PySem.W.codeIn K cd_l_row "_law_row" = true)
    (k_l_row : PySem.W.keepIn K (.ref f_l_row) = true)
    (a_l_sums : PySem.W.nsIn K mainGlobals "_law_sums" = some (some (.ref f_l_sums)))
    (l_l_sums : K.lookup f_l_sums = some ⟨oc_l_sums, od_l_sums, .func (PySem.W.fnOf "_law_sums" "_law_sums" (defArgs s_l_sums) (defBody s_l_sums) (defScope s_l_sums) .none kV_l_sums dc_l_sums pm_l_sums an_l_sums cd_l_sums ct_l_sums), sl_l_sums⟩)
    (c_l_sums : PySem.W.codeIn K cd_l_sums "_law_sums" = true)
    (k_l_sums : PySem.W.keepIn K (.ref f_l_sums) = true)
    (a_is_number : PySem.W.nsIn K mainGlobals "is_number" = some (some (.ref f_is_number)))
    (l_is_number : K.lookup f_is_number = some ⟨oc_is_number, od_is_number, .func (PySem.W.fnOf "is_number" "is_number" (defArgs s_is_number) (defBody s_is_number) (defScope s_is_number) .none kV_is_number dc_is_number pm_is_number an_is_number cd_is_number ct_is_number), sl_is_number⟩)
    (c_is_number : PySem.W.codeIn K cd_is_number "is_number" = true)
    (k_is_number : PySem.W.keepIn K (.ref f_is_number) = true)
    (a_asked_row : PySem.W.nsIn K mainGlobals "asked_row" = some (some (.ref f_asked_row)))
    (l_asked_row : K.lookup f_asked_row = some ⟨oc_asked_row, od_asked_row, .func (PySem.W.fnOf "asked_row" "asked_row" (defArgs s_asked_row) (defBody s_asked_row) (defScope s_asked_row) .none kV_asked_row dc_asked_row pm_asked_row an_asked_row cd_asked_row ct_asked_row), sl_asked_row⟩)
    (c_asked_row : PySem.W.codeIn K cd_asked_row "asked_row" = true)
    (k_asked_row : PySem.W.keepIn K (.ref f_asked_row) = true)
    (a_asked_total : PySem.W.nsIn K mainGlobals "asked_total" = some (some (.ref f_asked_total)))
    (l_asked_total : K.lookup f_asked_total = some ⟨oc_asked_total, od_asked_total, .func (PySem.W.fnOf "asked_total" "asked_total" (defArgs s_asked_total) (defBody s_asked_total) (defScope s_asked_total) .none kV_asked_total dc_asked_total pm_asked_total an_asked_total cd_asked_total ct_asked_total), sl_asked_total⟩)
    (c_asked_total : PySem.W.codeIn K cd_asked_total "asked_total" = true)
    (k_asked_total : PySem.W.keepIn K (.ref f_asked_total) = true)
    (a_summed : PySem.W.nsIn K mainGlobals "summed" = some (some (.ref f_summed)))
    (l_summed : K.lookup f_summed = some ⟨oc_summed, od_summed, .func (PySem.W.fnOf "summed" "summed" (defArgs s_summed) (defBody s_summed) (defScope s_summed) .none kV_summed dc_summed pm_summed an_summed cd_summed ct_summed), sl_summed⟩)
    (c_summed : PySem.W.codeIn K cd_summed "summed" = true)
    (k_summed : PySem.W.keepIn K (.ref f_summed) = true)
    (a_how_many : PySem.W.nsIn K mainGlobals "how_many" = some (some (.ref f_how_many)))
    (l_how_many : K.lookup f_how_many = some ⟨oc_how_many, od_how_many, .func (PySem.W.fnOf "how_many" "how_many" (defArgs s_how_many) (defBody s_how_many) (defScope s_how_many) .none kV_how_many dc_how_many pm_how_many an_how_many cd_how_many ct_how_many), sl_how_many⟩)
    (c_how_many : PySem.W.codeIn K cd_how_many "how_many" = true)
    (k_how_many : PySem.W.keepIn K (.ref f_how_many) = true)
    (a_sums : PySem.W.nsIn K mainGlobals "sums" = some (some (.ref f_sums)))
    (l_sums : K.lookup f_sums = some ⟨oc_sums, od_sums, .func (PySem.W.fnOf "sums" "sums" (defArgs s_sums) (defBody s_sums) (defScope s_sums) .none kV_sums dc_sums pm_sums an_sums cd_sums ct_sums), sl_sums⟩)
    (c_sums : PySem.W.codeIn K cd_sums "sums" = true)
    (k_sums : PySem.W.keepIn K (.ref f_sums) = true)
    (a_law_k05 : PySem.W.nsIn K mainGlobals "law" = some (some (.ref f_law_k05)))
    (l_law_k05 : K.lookup f_law_k05 = some ⟨oc_law_k05, od_law_k05, .func (PySem.W.fnOf "law" "law" (defArgs s_law_k05) (defBody s_law_k05) (defScope s_law_k05) .none kV_law_k05 dc_law_k05 pm_law_k05 an_law_k05 cd_law_k05 ct_law_k05), sl_law_k05⟩)
    (c_law_k05 : PySem.W.codeIn K cd_law_k05 "law" = true)
    (k_law_k05 : PySem.W.keepIn K (.ref f_law_k05) = true) : Txt K mg {  } :=
  { n_all := PySem.W.mg_none_of X G z_all,
    n_bool := PySem.W.mg_none_of X G z_bool,
    n_int := PySem.W.mg_none_of X G z_int,
    n_isinstance := PySem.W.mg_none_of X G z_isinstance,
    n_len := PySem.W.mg_none_of X G z_len,
    n_list := PySem.W.mg_none_of X G z_list,
    n_range := PySem.W.mg_none_of X G z_range,
    n_reversed := PySem.W.mg_none_of X G z_reversed,
    n_sum := PySem.W.mg_none_of X G z_sum,
    k_FARTHEST := tk_FARTHEST,
    g_FARTHEST := PySem.W.mg_of X G c_FARTHEST,
    f_l_numbers := f_l_numbers,
    d_l_numbers := _,
    F_l_numbers := fun_mk (st := s_l_numbers) l_l_numbers c_l_numbers k_l_numbers,
    b_l_numbers := (fun_mk (st := s_l_numbers) l_l_numbers c_l_numbers k_l_numbers).binds (ps := (["_law_found"] : List Str)) fun _ _ _ _ _ _ us hl => match us, hl with | [_], _ => rfl,
    g_l_numbers := PySem.W.mg_of X G a_l_numbers,
    f_l_row := f_l_row,
    d_l_row := _,
    F_l_row := fun_mk (st := s_l_row) l_l_row c_l_row k_l_row,
    b_l_row := (fun_mk (st := s_l_row) l_l_row c_l_row k_l_row).binds (ps := (["_law_script"] : List Str)) fun _ _ _ _ _ _ us hl => match us, hl with | [_], _ => rfl,
    g_l_row := PySem.W.mg_of X G a_l_row,
    f_l_sums := f_l_sums,
    d_l_sums := _,
    F_l_sums := fun_mk (st := s_l_sums) l_l_sums c_l_sums k_l_sums,
    b_l_sums := (fun_mk (st := s_l_sums) l_l_sums c_l_sums k_l_sums).binds (ps := (["_law_row_here"] : List Str)) fun _ _ _ _ _ _ us hl => match us, hl with | [_], _ => rfl,
    g_l_sums := PySem.W.mg_of X G a_l_sums,
    f_is_number := f_is_number,
    d_is_number := _,
    F_is_number := fun_mk (st := s_is_number) l_is_number c_is_number k_is_number,
    b_is_number := (fun_mk (st := s_is_number) l_is_number c_is_number k_is_number).binds (ps := (["thing"] : List Str)) fun _ _ _ _ _ _ us hl => match us, hl with | [_], _ => rfl,
    g_is_number := PySem.W.mg_of X G a_is_number,
    f_asked_row := f_asked_row,
    d_asked_row := _,
    F_asked_row := fun_mk (st := s_asked_row) l_asked_row c_asked_row k_asked_row,
    b_asked_row := (fun_mk (st := s_asked_row) l_asked_row c_asked_row k_asked_row).binds (ps := (["row"] : List Str)) fun _ _ _ _ _ _ us hl => match us, hl with | [_], _ => rfl,
    g_asked_row := PySem.W.mg_of X G a_asked_row,
    f_asked_total := f_asked_total,
    d_asked_total := _,
    F_asked_total := fun_mk (st := s_asked_total) l_asked_total c_asked_total k_asked_total,
    b_asked_total := (fun_mk (st := s_asked_total) l_asked_total c_asked_total k_asked_total).binds (ps := (["total"] : List Str)) fun _ _ _ _ _ _ us hl => match us, hl with | [_], _ => rfl,
    g_asked_total := PySem.W.mg_of X G a_asked_total,
    f_summed := f_summed,
    d_summed := _,
    F_summed := fun_mk (st := s_summed) l_summed c_summed k_summed,
    b_summed := (fun_mk (st := s_summed) l_summed c_summed k_summed).binds (ps := (["row"] : List Str)) fun _ _ _ _ _ _ us hl => match us, hl with | [_], _ => rfl,
    g_summed := PySem.W.mg_of X G a_summed,
    f_how_many := f_how_many,
    d_how_many := _,
    F_how_many := fun_mk (st := s_how_many) l_how_many c_how_many k_how_many,
    b_how_many := (fun_mk (st := s_how_many) l_how_many c_how_many k_how_many).binds (ps := (["row", "total"] : List Str)) fun _ _ _ _ _ _ us hl => match us, hl with | [_, _], _ => rfl,
    g_how_many := PySem.W.mg_of X G a_how_many,
    f_sums := f_sums,
    d_sums := _,
    F_sums := fun_mk (st := s_sums) l_sums c_sums k_sums,
    b_sums := (fun_mk (st := s_sums) l_sums c_sums k_sums).binds (ps := (["row"] : List Str)) fun _ _ _ _ _ _ us hl => match us, hl with | [_], _ => rfl,
    g_sums := PySem.W.mg_of X G a_sums,
    f_law_k05 := f_law_k05,
    d_law_k05 := _,
    F_law_k05 := fun_mk (st := s_law_k05) l_law_k05 c_law_k05 k_law_k05,
    b_law_k05 := (fun_mk (st := s_law_k05) l_law_k05 c_law_k05 k_law_k05).binds (ps := (["_law_script"] : List Str)) fun _ _ _ _ _ _ us hl => match us, hl with | [_], _ => rfl,
    g_law_k05 := PySem.W.mg_of X G a_law_k05 }
theorem all_mk {l : PySem.W.OpenLaw} {w : World} {K : PySem.W.Frag} {mg : Str → Option Value} {fa : Addr} {cs : Cs} (T : Txt K mg cs) (hfa : mg "law" = some (.ref fa)) :
    ∃ fd : FuncData, (∀ (s : Shared) (v : Value), BindsTo s fd ⟨[v], []⟩ [("_law_script", v)]) ∧ ∀ base : Heap, K.In base → base.Ns mainGlobals mg → FnOk l.prog w K mg base CX0 4 fa fd (["_law_script"] : List Str) (sp_law_k05 K cs) := by
  have e := hfa.symm.trans T.g_law_k05
  cases e
  refine ⟨T.d_law_k05, fun s v => ?_, fun base _ _ => ok_law_k05 T⟩
  obtain ⟨oc, od, kV, doc, pm, an, cdv, ct, osl, e, _, _⟩ := T.F_law_k05.ex
  rw [e]
  exact .of_eq rfl
theorem walk {l : PySem.W.OpenLaw} {q : Program} {loose : List Str} {XP : (Str → Option Value) → Heap → Prop} {YP : World → Heap → Prop} {d : DefRec} {K : Params → PySem.W.Frag} (hn : l.most = some 63) (hdf : d.params.defaults = [])
    (hY : ∀ (w : World) (h : Heap), YP w h → (K w.params).In h)
    (F : ∀ (w : World) (mg : Str → Option Value) (fa : Addr) (h : Heap), (K w.params).In h → h.Ns mainGlobals mg → mg d.name = some (.ref fa) →
      ∃ fd : FuncData, (∀ (s : Shared) (u : Value), BindsTo s fd ⟨[u], []⟩ [("_law_script", u)]) ∧ ∀ base : Heap, (K w.params).In base → base.Ns mainGlobals mg → FnOk l.prog w (K w.params) mg base CX0 4 fa fd (["_law_script"] : List Str) (spLaw (K w.params))) :
    PySem.W.WalkO q loose XP YP l.row.toRowW d [] (fun f vs => PySem.call f vs) :=
  L2.walk_of (n := 63) (k := 4) (x := "_law_script") (CX := fun _ => CX0) (sp := fun w => spLaw (K w.params)) hn (by decide) hdf ⟨rfl, by decide, by decide⟩ hY F (fun _ _ a ns hl _ hS => ⟨a, ns, rfl, hS, hl, fun _ => rfl⟩) fun _ _ _ _ _ z => z
end Bs
open PySem PySem.W PyProof.Rows
set_option maxRecDepth 100000 in
set_option maxHeartbeats 0 in
theorem PySem.Challenge.cw_beststretch_k05_sums_holds : PySem.Challenge.rw_beststretch_k05_sums.Holds := by
  w_on; o_law; k_head; (case hw => w_witness2)
  k_fill
  refine Bs.walk (l := PySem.Challenge.rw_beststretch_k05_sums) rfl rfl (fun w h Y => PySem.W.kIn_of Y) ?F
  case F =>
    intro w mg fa h KX G hmg
    refine' Bs.all_mk (Bs.txt_mk KX G ?z_all ?z_bool ?z_int ?z_isinstance ?z_len ?z_list ?z_range ?z_reversed ?z_sum ?c_FARTHEST ?a_l_numbers ?l_l_numbers ?c_l_numbers ?k_l_numbers ?a_l_row ?l_l_row ?c_l_row ?k_l_row ?a_l_sums ?l_l_sums ?c_l_sums ?k_l_sums ?a_is_number ?l_is_number ?c_is_number ?k_is_number ?a_asked_row ?l_asked_row ?c_asked_row ?k_asked_row ?a_asked_total ?l_asked_total ?c_asked_total ?k_asked_total ?a_summed ?l_summed ?c_summed ?k_summed ?a_how_many ?l_how_many ?c_how_many ?k_how_many ?a_sums ?l_sums ?c_sums ?k_sums ?a_law_k05 ?l_law_k05 ?c_law_k05 ?k_law_k05) hmg
    (case z_all => k_is)
    (case z_bool => k_is)
    (case z_int => k_is)
    (case z_isinstance => k_is)
    (case z_len => k_is)
    (case z_list => k_is)
    (case z_range => k_is)
    (case z_reversed => k_is)
    (case z_sum => k_is)
    (case c_FARTHEST => k_is)
    (case a_l_numbers => k_is)
    (case l_l_numbers => k_is)
    (case c_l_numbers => k_is)
    (case k_l_numbers => k_is)
    (case a_l_row => k_is)
    (case l_l_row => k_is)
    (case c_l_row => k_is)
    (case k_l_row => k_is)
    (case a_l_sums => k_is)
    (case l_l_sums => k_is)
    (case c_l_sums => k_is)
    (case k_l_sums => k_is)
    (case a_is_number => k_is)
    (case l_is_number => k_is)
    (case c_is_number => k_is)
    (case k_is_number => k_is)
    (case a_asked_row => k_is)
    (case l_asked_row => k_is)
    (case c_asked_row => k_is)
    (case k_asked_row => k_is)
    (case a_asked_total => k_is)
    (case l_asked_total => k_is)
    (case c_asked_total => k_is)
    (case k_asked_total => k_is)
    (case a_summed => k_is)
    (case l_summed => k_is)
    (case c_summed => k_is)
    (case k_summed => k_is)
    (case a_how_many => k_is)
    (case l_how_many => k_is)
    (case c_how_many => k_is)
    (case k_how_many => k_is)
    (case a_sums => k_is)
    (case l_sums => k_is)
    (case c_sums => k_is)
    (case k_sums => k_is)
    (case a_law_k05 => k_is)
    (case l_law_k05 => k_is)
    (case c_law_k05 => k_is)
    (case k_law_k05 => k_is)
