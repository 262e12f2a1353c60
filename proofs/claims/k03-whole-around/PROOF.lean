import PyProof.Rows.All
import Wide.All
import OpenK.AllK
import Wide.FinOn
import HandS.ForMost
import HandS.Walk
import HandS.Style
import HandS.IsInst
import HandS.RevRange
import HandS.Conv
import HandS.SortInts
import PySem.Challenge.RW_beststretch_k03_whole_around
set_option Elab.async false
set_option linter.all false
set_option maxRecDepth 100000
set_option maxHeartbeats 4000000
namespace Bs
open PySem L2

/-! ### operators by name -/
def rAddI : R2 := rI0 fun i j => .int (i + j)
def rSubI : R2 := rI0 fun i j => .int (i - j)
def rMulI : R2 := rI CMul fun i j => .int (i * j)
def rModI : R2 := rI (fun _ j => 0 < j) fun i j => .int (i % j)
def rDivI : R2 := rI CDiv fun i j => .int (i / j)
def rPowI : R2 := rI CPow fun i j => .int (i ^ j.toNat)
def rLtI : R2 := rI0 fun i j => .bl (decide (i < j))
def rLeI : R2 := rI0 fun i j => .bl (decide (i ≤ j))
def rGtI : R2 := rI0 fun i j => .bl (decide (j < i))
def rGeI : R2 := rI0 fun i j => .bl (decide (j ≤ i))
def rNegI : V → Hp → VK → Prop := rU fun i => .int (-i)
def cLen (K : PySem.W.Frag) : List V → Hp → VK → Prop := fun xs H Q => ∃ p ys, xs = [.ref p] ∧ (SqL K H p ys ∨ SqT K H p ys) ∧ Q (.int ys.length) H
def cList (K : PySem.W.Frag) : List V → Hp → VK → Prop := fun xs H Q => ∃ p ys, xs = [.ref p] ∧ (SqL K H p ys ∨ SqT K H p ys) ∧ ∀ l, H l = none → Q (.ref l) (upd H l (.lst ys))
def cMax2 : List V → Hp → VK → Prop := fun xs H Q => ∃ i j, xs = [.int i, .int j] ∧ Q (.int (if j > i then j else i)) H
def cMin2 : List V → Hp → VK → Prop := fun xs H Q => ∃ i j, xs = [.int i, .int j] ∧ Q (.int (if j < i then j else i)) H
section
variable {X : Cx}
theorem op_addI : OpR X (binaryOp .Add) rAddI := op_add
theorem op_subI : OpR X (binaryOp .Sub) rSubI := op_sub
theorem op_mulI : OpR X (binaryOp .Mult) rMulI := op_mul
theorem op_modI : OpR X (binaryOp .Mod) rModI := op_mod
theorem op_divI : OpR X (binaryOp .FloorDiv) rDivI := op_fdiv
theorem op_powI : OpR X (binaryOp .Pow) rPowI := op_pow
theorem op_ltI : OpR X (compareOp .Lt) rLtI := op_lt
theorem op_leI : OpR X (compareOp .LtE) rLeI := op_le
theorem op_gtI : OpR X (compareOp .Gt) rGtI := op_gt
theorem op_geI : OpR X (compareOp .GtE) rGeI := op_ge
theorem un_negI : UnR X (unaryOp .USub) rNegI := un_neg
theorem c_len : CallR X (.builtin "len") (cLen X.K) := call_len_seq
theorem c_list : CallR X (.type "list") (cList X.K) := call_list_of
theorem c_max2 (hc : X.calm = true) : CallR X (.builtin "max") cMax2 := call_max2 hc
theorem c_min2 (hc : X.calm = true) : CallR X (.builtin "min") cMin2 := call_min2 hc
/-- one of two readings -/
def tAlt (t u : TE) : TE := fun σ H Q => t σ H Q ∨ u σ H Q
theorem pe_alt {e : Expr} {t u : TE} (h1 : PE X e t) (h2 : PE X e u) : PE X e (tAlt t u) :=
  ⟨fun pins s σ H Q I h => h.elim (fun q => h1.run pins s σ H Q I q) fun q => h2.run pins s σ H Q I q⟩
end

/-! ### heaps -/
section
variable {H H0 H1 H2 : Hp} {a p : Addr} {o o' : HO} {K : PySem.W.Frag} {xs : List V}
theorem same_new (s : Same H0 H) (n : H p = none) : Same H0 (upd H p o) := fun b u e => by
  have := s b u e
  rw [upd_ne (ne_of_none this n)]
  exact this
theorem same_mut (s : Same H0 H) (n : H0 p = none) : Same H0 (upd H p o) := fun b u e => by
  rw [upd_ne (ne_of_none e n)]
  exact s b u e
theorem same_new' (n : H p = none) (s : Same H0 H) : Same H0 (upd H p o) := same_new s n
theorem same_mut' (n : H0 p = none) (s : Same H0 H) : Same H0 (upd H p o) := same_mut s n
theorem same_r (s : Same H1 H2) (t : Same H0 H1) : Same H0 H2 := t.trans s
theorem at_new (h : H a = some o) (n : H p = none) : upd H p o' a = some o := (upd_ne (ne_of_none h n)).trans h
theorem at_new' (n : H p = none) (h : H a = some o) : upd H p o' a = some o := at_new h n
theorem at_mut (d : a ≠ p) (h : H a = some o) : upd H p o' a = some o := (upd_ne d).trans h
theorem at_same (s : Same H0 H) (h : H0 a = some o) : H a = some o := s a o h
theorem free_of (s : Same H0 H) (h : H p = none) : H0 p = none := s.free h
theorem ne_old (n : H p = none) (h : H a = some o) : a ≠ p := ne_of_none h n
theorem sq_same (h : SqL K H0 a xs) (s : Same H0 H) : SqL K H a xs := s.seq h
theorem sqt_same (h : SqT K H0 a xs) (s : Same H0 H) : SqT K H a xs := by
  rcases h with (h | ⟨o, h⟩) | h
  · exact .inl (.inl (s _ _ h))
  · exact .inl (.inr ⟨o, s _ _ h⟩)
  · exact .inr h
theorem free_of' (h : H p = none) (s : Same H0 H) : H0 p = none := s.free h
theorem free_upd (n : H a = none) (d : a ≠ p) : upd H p o a = none := (upd_ne d).trans n
end

/-! ### what a def hands back -/
/-- a value, the objects as they were -/
def RetV (H : Hp) (Q : VK) (v : V) : Prop := ∀ H', Same H H' → Q v H'
/-- a new list of ints -/
def RetI (H : Hp) (Q : VK) (ns : List Int) : Prop := ∀ p H', H p = none → Same H H' → H' p = some (.lst (ns.map V.int)) → Q (.ref p) H'

/-! ### what is wanted behind a part, by name -/
def kBl (Q : Bool → Hp → Prop) : VK := fun x H => ∃ k, x = .bl k ∧ Q k H
def kNot (Q : Bool → Hp → Prop) : Bool → Hp → Prop := fun c H => Q (!c) H
def kAnd (u : TT) (σ : L2.St) (Q : Bool → Hp → Prop) : Bool → Hp → Prop := fun c H => if c = true then u σ H Q else Q false H
def kOr (u : TT) (σ : L2.St) (Q : Bool → Hp → Prop) : Bool → Hp → Prop := fun c H => if c = true then Q true H else u σ H Q
def kAndV (u : TE) (σ : L2.St) (Q : VK) : VK := fun x H => ∃ c, x = .bl c ∧ if c = true then u σ H Q else Q (.bl false) H
def kOrV (u : TE) (σ : L2.St) (Q : VK) : VK := fun x H => ∃ c, x = .bl c ∧ if c = true then Q (.bl true) H else u σ H Q
def kNotV (Q : VK) : VK := fun x H => ∃ c, x = .bl c ∧ Q (.bl (!c)) H
def kIfS (t u : TS) (D : Ends) (σ : L2.St) : Bool → Hp → Prop := fun b H => if b = true then t D σ H else u D σ H
def kIfE (t u : TE) (σ : L2.St) (Q : VK) : Bool → Hp → Prop := fun b H => if b = true then t σ H Q else u σ H Q
def kSet (i : Nat) (D : Ends) (σ : L2.St) : VK := fun v H => D.nx (σ.set i (some v)) H
def kAsg (g : TG) (D : Ends) (σ : L2.St) : VK := fun v H => g v σ H D.nx
def kDrop (D : Ends) (σ : L2.St) : VK := fun _ H => D.nx σ H
def kCall (sp : Sp) (dvs : List V) (E : XK) (Q : VK) : List V → Hp → Prop := fun vs H => sp (vs ++ dvs) H Q E
def kCB (r : List V → Hp → VK → Prop) (Q : VK) : List V → Hp → Prop := fun vs H => r vs H Q
def kBM (K : PySem.W.Frag) (T : String) (r : V → List V → Hp → VK → Prop) (ta : TA) (σ : L2.St) (Q : VK) : VK := fun x H => tyV K T x H ∧ ta σ H fun xs H2 => r x xs H2 Q
def kBM0 (K : PySem.W.Frag) (T : String) (r : V → List V → Hp → VK → Prop) (Q : VK) : VK := fun x H => tyV K T x H ∧ r x [] H Q
def kFor (g : TG) (tb : TS) (D : Ends) (σ : L2.St) : It → Hp → Prop := fun J H1 => ∃ W : Nat → Nat → L2.St → Hp → Prop, (∃ m, W 0 m σ H1) ∧ ∀ i m σ H, W i m σ H →
    (J.stop i H ∧ D.nx σ H) ∨ (J.go i H ∧ ∃ N : L2.St → Hp → Prop, (∀ σ' H', N σ' H' → ∃ m', m' < m ∧ W (i + 1) m' σ' H') ∧ ∀ x H', J.yld i H x H' → g x σ H' fun σ2 H2 => tb { D with nx := N, ct := N, bk := D.nx } σ2 H2)
def kLc (g : TG) (tt : TT) (te : TE) (vs : List Nat) (σ : L2.St) (Q : VK) : It → Hp → Prop := fun J H1 => ∀ D, H1 D = none → ∃ W : Nat → Nat → Hp → Prop, (∃ m, W 0 m (upd H1 D (.lst []))) ∧ ∀ i m H, W i m H →
    (J.stop i H ∧ Q (.ref D) H) ∨ (J.go i H ∧ ∃ Nx : Hp → Prop, (∀ H', Nx H' → ∃ m', m' < m ∧ W (i + 1) m' H') ∧ ∀ x H', J.yld i H x H' → g x (wipe σ vs) H' fun σ2 H2 => wipe σ2 vs = wipe σ vs ∧ tt σ2 H2 fun b H3 =>
      if b = true then te σ2 H3 fun y H4 => ∃ acc, H4 D = some (.lst acc) ∧ acc.length < sizeLine ∧ Nx (upd H4 D (.lst (acc ++ [y]))) else Nx H3)
def kIList (K : PySem.W.Frag) (R : It → Hp → Prop) : VK := fun x H => ∃ a, x = .ref a ∧ (∃ xs, SqL K H a xs) ∧ R (Itl K a) H
def kRng1 (R : It → Hp → Prop) : List V → Hp → Prop := fun vs H1 => ∃ j : Int, vs = [.int j] ∧ -(2 ^ 62) ≤ j ∧ j < 2 ^ 62 ∧ R (Itr 0 j.toNat) H1
def kRng2 (R : It → Hp → Prop) : List V → Hp → Prop := fun vs H1 => ∃ i j : Int, vs = [.int i, .int j] ∧ (-(2 ^ 62) ≤ i ∧ i < 2 ^ 62 ∧ -(2 ^ 62) ≤ j ∧ j < 2 ^ 62) ∧ R (Itr i (j - i).toNat) H1
def kEnum (K : PySem.W.Frag) (R : It → Hp → Prop) : List V → Hp → Prop := fun vs H1 => ∃ a xs, vs = [.ref a] ∧ SqL K H1 a xs ∧ R (Ite K a) H1
def kLst (Q : VK) : List V → Hp → Prop := fun xs H1 => xs.length ≤ sizeLine ∧ ∀ p, H1 p = none → Q (.ref p) (upd H1 p (.lst xs))
def kTup (Q : VK) : List V → Hp → Prop := fun xs H1 => xs.length ≤ sizeLine ∧ ∀ p, H1 p = none → Q (.ref p) (upd H1 p (.tup xs))
def kFld (K : PySem.W.Frag) (f : Str) (Q : VK) : VK := fun x H1 => ∃ a C dx fs v, x = .ref a ∧ H1 a = some (.ins C dx fs) ∧ Cls K C ∧ NoAttr K C f ∧ fs.lookup f = some v ∧ Q v H1
def kPart (Q : Option Int → Hp → Prop) : VK := fun x H1 => ∃ i, x = .int i ∧ Q (some i) H1
def kChain (r' : R2) (y : V) (tc : TE) (σ : L2.St) (Q : VK) : VK := fun z H3 => ∃ k, z = .bl k ∧ (if k = true then tc σ H3 fun w' H4 => r' y w' H4 Q else Q (.bl false) H3)
def kMeth (C : Addr) (m : Str) (sp : Sp) (dvs : List V) (E : XK) (t : TA) (σ : L2.St) (Q : VK) : VK := fun x H1 => ∃ a dx fs, x = .ref a ∧ H1 a = some (.ins C dx fs) ∧ fs.lookup m = none ∧ t σ H1 fun vs H2 => sp (x :: (vs ++ dvs)) H2 Q E
def kMake (C : Addr) (sp : Sp) (dvs : List V) (E : XK) (Q : VK) : List V → Hp → Prop := fun vs H1 => ∀ x dx, H1 x = none → H1 dx = none → dx ≠ x →
    sp (.ref x :: (vs ++ dvs)) (upd (upd H1 dx (.own x)) x (.ins C dx [])) (fun v H2 => v = .non ∧ Q (.ref x) H2) E

section
variable {K : PySem.W.Frag} {σ σ' : L2.St} {H H' : Hp} {Q : VK} {QB : Bool → Hp → Prop} {ta tb te : TE} {tt uu : TT} {t u : TS} {D : Ends} {v x y : V} {i j : Int} {r : R2} {a b p : Addr} {ns ms : List Int} {xs ys vs : List V} {c d : Bool}
/-! ### expressions -/
theorem wp_var {n : Nat} (h : σ[n]? = some (some v)) (q : Q v H) : tVar n σ H Q := ⟨v, h, q⟩
theorem wp_c (q : Q v H) : tC v σ H Q := q
theorem wp_op (q : ta σ H fun x H1 => tb σ H1 fun y H2 => r x y H2 Q) : tOp r ta tb σ H Q := q
theorem wp_un {r : V → Hp → VK → Prop} (q : ta σ H fun x H1 => r x H1 Q) : tUn r ta σ H Q := q
theorem wp_addI (q : Q (.int (i + j)) H) : rAddI (.int i) (.int j) H Q := ⟨i, j, rfl, rfl, q⟩
theorem wp_subI (q : Q (.int (i - j)) H) : rSubI (.int i) (.int j) H Q := ⟨i, j, rfl, rfl, q⟩
theorem wp_mulI (h : CMul i j) (q : Q (.int (i * j)) H) : rMulI (.int i) (.int j) H Q := ⟨i, j, rfl, rfl, h, q⟩
theorem wp_modI (h : 0 < j) (q : Q (.int (i % j)) H) : rModI (.int i) (.int j) H Q := ⟨i, j, rfl, rfl, h, q⟩
theorem wp_divI (h : 0 < j ∧ j < 1073741824) (q : Q (.int (i / j)) H) : rDivI (.int i) (.int j) H Q := ⟨i, j, rfl, rfl, h, q⟩
theorem wp_negI (q : Q (.int (-i)) H) : rNegI (.int i) H Q := ⟨i, rfl, q⟩
theorem wp_ltI (q : Q (.bl (decide (i < j))) H) : rLtI (.int i) (.int j) H Q := ⟨i, j, rfl, rfl, q⟩
theorem wp_leI (q : Q (.bl (decide (i ≤ j))) H) : rLeI (.int i) (.int j) H Q := ⟨i, j, rfl, rfl, q⟩
theorem wp_gtI (q : Q (.bl (decide (j < i))) H) : rGtI (.int i) (.int j) H Q := ⟨i, j, rfl, rfl, q⟩
theorem wp_geI (q : Q (.bl (decide (j ≤ i))) H) : rGeI (.int i) (.int j) H Q := ⟨i, j, rfl, rfl, q⟩
theorem dec_int : decide (V.int i = V.int j) = decide (i = j) := by
  by_cases h : i = j
  · subst h; simp
  · rw [decide_eq_false h, decide_eq_false fun z => h (V.int.inj z)]
theorem dec_bl : decide (V.bl c = V.bl d) = decide (c = d) := by
  by_cases h : c = d
  · subst h; simp
  · rw [decide_eq_false h, decide_eq_false fun z => h (V.bl.inj z)]
theorem wp_eqI (q : Q (.bl (decide (i = j))) H) : rEq (.int i) (.int j) H Q := ⟨rfl, by rw [dec_int]; exact q⟩
theorem wp_neI (q : Q (.bl (!decide (i = j))) H) : rNe (.int i) (.int j) H Q := ⟨rfl, by rw [dec_int]; exact q⟩
theorem wp_eqB (q : Q (.bl (decide (c = d))) H) : rEq (.bl c) (.bl d) H Q := ⟨rfl, by rw [dec_bl]; exact q⟩
theorem wp_neB (q : Q (.bl (!decide (c = d))) H) : rNe (.bl c) (.bl d) H Q := ⟨rfl, by rw [dec_bl]; exact q⟩
theorem wp_isB (q : Q (.bl (decide (c = d))) H) : rIsB (.bl c) (.bl d) H Q := ⟨c, d, rfl, rfl, q⟩
theorem wp_ntB (q : Q (.bl (!decide (c = d))) H) : rNotB (.bl c) (.bl d) H Q := ⟨c, d, rfl, rfl, q⟩
/-! ### tests -/
theorem wp_test (q : te σ H (kBl QB)) : tTest te σ H QB := q
theorem wp_tB (q : te σ H (kBl QB)) : tB te σ H QB := q
theorem wp_kB (q : QB c H) : kBl QB (.bl c) H := ⟨c, rfl, q⟩
theorem wp_not (q : tt σ H (kNot QB)) : tNot tt σ H QB := q
theorem wp_kNot (q : QB (!c) H) : kNot QB c H := q
theorem wp_and (q : tt σ H (kAnd uu σ QB)) : tAnd tt uu σ H QB := q
theorem wp_or (q : tt σ H (kOr uu σ QB)) : tOr tt uu σ H QB := q
theorem wp_kAnd {c d : Bool} (h : c = true → ∀ Q' : Bool → Hp → Prop, Q' d H → uu σ H Q') (q : QB (c && d) H) : kAnd uu σ QB c H := by
  cases c with
  | true => exact h rfl QB q
  | false => exact q
theorem wp_kOr {c d : Bool} (h : c = false → ∀ Q' : Bool → Hp → Prop, Q' d H → uu σ H Q') (q : QB (c || d) H) : kOr uu σ QB c H := by
  cases c with
  | true => exact q
  | false => exact h rfl QB q
theorem wp_kAndS {c d : Bool} (h : c = true → ∀ Q' : Bool → Hp → Prop, (∀ H', Same H H' → Q' d H') → uu σ H Q') (q : ∀ H', Same H H' → QB (c && d) H') : kAnd uu σ QB c H := by
  cases c with
  | true => exact h rfl QB q
  | false => exact q H (Same.refl H)
theorem wp_kOrS {c d : Bool} (h : c = false → ∀ Q' : Bool → Hp → Prop, (∀ H', Same H H' → Q' d H') → uu σ H Q') (q : ∀ H', Same H H' → QB (c || d) H') : kOr uu σ QB c H := by
  cases c with
  | true => exact q H (Same.refl H)
  | false => exact h rfl QB q
theorem wp_andV (q : ta σ H (kAndV tb σ Q)) : tAndV ta tb σ H Q := q
theorem wp_orV (q : ta σ H (kOrV tb σ Q)) : tOrV ta tb σ H Q := q
theorem wp_notV (q : ta σ H (kNotV Q)) : tNotV ta σ H Q := q
theorem wp_kNotV (q : Q (.bl (!c)) H) : kNotV Q (.bl c) H := ⟨c, rfl, q⟩
theorem wp_kAndV {c d : Bool} (h : c = true → ∀ Q' : VK, Q' (.bl d) H → tb σ H Q') (q : Q (.bl (c && d)) H) : kAndV tb σ Q (.bl c) H := by
  refine ⟨c, rfl, ?_⟩
  cases c with
  | true => exact h rfl Q q
  | false => exact q
theorem wp_kOrV {c d : Bool} (h : c = false → ∀ Q' : VK, Q' (.bl d) H → tb σ H Q') (q : Q (.bl (c || d)) H) : kOrV tb σ Q (.bl c) H := by
  refine ⟨c, rfl, ?_⟩
  cases c with
  | true => exact q
  | false => exact h rfl Q q
theorem wp_kAndVS {c d : Bool} (h : c = true → ∀ Q' : VK, (∀ H', Same H H' → Q' (.bl d) H') → tb σ H Q') (q : ∀ H', Same H H' → Q (.bl (c && d)) H') : kAndV tb σ Q (.bl c) H := by
  refine ⟨c, rfl, ?_⟩
  cases c with
  | true => exact h rfl Q q
  | false => exact q H (Same.refl H)
theorem wp_kOrVS {c d : Bool} (h : c = false → ∀ Q' : VK, (∀ H', Same H H' → Q' (.bl d) H') → tb σ H Q') (q : ∀ H', Same H H' → Q (.bl (c || d)) H') : kOrV tb σ Q (.bl c) H := by
  refine ⟨c, rfl, ?_⟩
  cases c with
  | true => exact q H (Same.refl H)
  | false => exact h rfl Q q
/-- a chain a op b op' c of pure parts -/
theorem wp_chain {r r' : R2} {tc : TE} (q : ta σ H fun x H1 => tb σ H1 fun y H2 => r x y H2 (kChain r' y tc σ Q)) : tChain r r' ta tb tc σ H Q := q
theorem wp_kChain {r' : R2} {y : V} {tc : TE} {c d : Bool} (h : c = true → ∀ Q' : VK, Q' (.bl d) H → tc σ H fun w H4 => r' y w H4 Q') (q : Q (.bl (c && d)) H) : kChain r' y tc σ Q (.bl c) H := by
  refine ⟨c, rfl, ?_⟩
  cases c with
  | true => exact h rfl Q q
  | false => exact q
theorem wp_ifE (q : tt σ H (kIfE ta tb σ Q)) : tIf tt ta tb σ H Q := q
theorem wp_kIfE (h1 : c = true → ta σ H Q) (h2 : c = false → tb σ H Q) : kIfE ta tb σ Q c H := by
  cases c with
  | true => exact h1 rfl
  | false => exact h2 rfl
/-! ### known answers -/
theorem kOr_f (q : uu σ H QB) : kOr uu σ QB false H := q
theorem kOr_nt (q : uu σ H QB) : kOr uu σ QB (!true) H := q
theorem kOr_t (q : QB true H) : kOr uu σ QB true H := q
theorem kOr_nf (q : QB true H) : kOr uu σ QB (!false) H := q
theorem kAnd_t (q : uu σ H QB) : kAnd uu σ QB true H := q
theorem kAnd_nf (q : uu σ H QB) : kAnd uu σ QB (!false) H := q
theorem kAnd_f (q : QB false H) : kAnd uu σ QB false H := q
theorem kAnd_nt (q : QB false H) : kAnd uu σ QB (!true) H := q
theorem kOrV_f (q : tb σ H Q) : kOrV tb σ Q (.bl false) H := ⟨false, rfl, q⟩
theorem kOrV_nt (q : tb σ H Q) : kOrV tb σ Q (.bl (!true)) H := ⟨false, rfl, q⟩
theorem kAndV_t (q : tb σ H Q) : kAndV tb σ Q (.bl true) H := ⟨true, rfl, q⟩
theorem kAndV_nf (q : tb σ H Q) : kAndV tb σ Q (.bl (!false)) H := ⟨true, rfl, q⟩
theorem kAndV_f (q : Q (.bl false) H) : kAndV tb σ Q (.bl false) H := ⟨false, rfl, q⟩
theorem kIfS_t (q : t D σ H) : kIfS t u D σ true H := q
theorem kIfS_nf (q : t D σ H) : kIfS t u D σ (!false) H := q
theorem kIfS_f (q : u D σ H) : kIfS t u D σ false H := q
theorem kIfS_nt (q : u D σ H) : kIfS t u D σ (!true) H := q
theorem kNotV_t (q : Q (.bl false) H) : kNotV Q (.bl true) H := ⟨true, rfl, q⟩
theorem kNotV_f (q : Q (.bl true) H) : kNotV Q (.bl false) H := ⟨false, rfl, q⟩
theorem kNot_t (q : QB false H) : kNot QB true H := q
theorem kNot_f (q : QB true H) : kNot QB false H := q
theorem kOr_not_t : (false || c) = c := by simp
/-! ### statements -/
theorem wp_seq (q : t { D with nx := u D } σ H) : tSeq t u D σ H := q
theorem wp_asgN {n : Nat} (q : te σ H (kSet n D σ)) : tAsg te (gName n) D σ H := q
theorem wp_asg {g : TG} (q : te σ H (kAsg g D σ)) : tAsg te g D σ H := q
theorem wp_kSet {n : Nat} (h : σ.set n (some v) = σ') (q : D.nx σ' H) : kSet n D σ v H := by
  show D.nx (σ.set n (some v)) H
  rw [h]
  exact q
theorem wp_kAsg {g : TG} (q : g v σ H D.nx) : kAsg g D σ v H := q
theorem wp_nx {n : L2.St → Hp → Prop} {rt : VK} {bk ct : L2.St → Hp → Prop} (q : n σ H) : Ends.nx (Ends.mk n rt bk ct) σ H := q
theorem wp_rt {n : L2.St → Hp → Prop} {rt : VK} {bk ct : L2.St → Hp → Prop} (q : rt v H) : Ends.rt (Ends.mk n rt bk ct) v H := q
theorem wp_next (q : D.nx σ H) : tNext D σ H := q
theorem wp_ret (q : te σ H D.rt) : tRet te D σ H := q
theorem wp_drop (q : te σ H (kDrop D σ)) : tDrop te D σ H := q
theorem wp_kDrop (q : D.nx σ H) : kDrop D σ v H := q
theorem wp_ifS (q : tt σ H (kIfS t u D σ)) : tIfS tt t u D σ H := q
theorem wp_kIfS (h1 : c = true → t D σ H) (h2 : c = false → u D σ H) : kIfS t u D σ c H := by
  cases c with
  | true => exact h1 rfl
  | false => exact h2 rfl
/-! ### arguments, calls -/
theorem wp_nil {Q : List V → Hp → Prop} (q : Q [] H) : tNil σ H Q := q
theorem wp_cons {Q : List V → Hp → Prop} {tr : TA} (q : te σ H fun x H1 => tr σ H1 fun xs H2 => Q (x :: xs) H2) : tCons te tr σ H Q := q
theorem wp_call {sp : Sp} {dvs : List V} {E : XK} {ta : TA} (q : ta σ H (kCall sp dvs E Q)) : tCall sp dvs E ta σ H Q := q
theorem wp_kCall {sp : Sp} {E : XK} (q : sp vs H Q E) : kCall sp [] E Q vs H := by
  show sp (vs ++ []) H Q E
  rw [List.append_nil]
  exact q
theorem wp_tCB {r : List V → Hp → VK → Prop} {ta : TA} (q : ta σ H (kCB r Q)) : tCB r ta σ H Q := q
theorem wp_kCB {r : List V → Hp → VK → Prop} (q : r vs H Q) : kCB r Q vs H := q
theorem wp_len (h : SqL K H a xs) (q : Q (.int xs.length) H) : cLen K [.ref a] H Q := ⟨a, xs, rfl, .inl h, q⟩
theorem wp_lenI (h : SqL K H a (ns.map V.int)) (q : Q (.int ns.length) H) : cLen K [.ref a] H Q := wp_len h (by rw [List.length_map]; exact q)
theorem wp_sum (h : SqL K H a (ns.map V.int)) (q : Q (.int ns.sum) H) : rSum K [.ref a] H Q := ⟨a, ns, rfl, h, q⟩
theorem wp_list (h : SqL K H a xs) (q : ∀ l, H l = none → Q (.ref l) (upd H l (.lst xs))) : cList K [.ref a] H Q := ⟨a, xs, rfl, .inl h, q⟩
theorem wp_max2 (q : Q (.int (if j > i then j else i)) H) : cMax2 [.int i, .int j] H Q := ⟨i, j, rfl, q⟩
theorem wp_min2 (q : Q (.int (if j < i then j else i)) H) : cMin2 [.int i, .int j] H Q := ⟨i, j, rfl, q⟩
/-! ### lists -/
/-- the item at a place -/
def nth (ns : List Int) (i : Int) : Int := ns.getD i.toNat 0
theorem atI_nth (h0 : 0 ≤ i) (h1 : i < ns.length) : atI (ns.map V.int) i = some (.int (nth ns i)) := by
  have hl : i.toNat < ns.length := by omega
  unfold atI ixN nth
  rw [List.length_map, if_pos h0, if_pos h1]
  show (ns.map V.int)[i.toNat]? = _
  rw [List.getElem?_map, List.getD_eq_getElem?_getD, List.getElem?_eq_getElem hl]
  rfl
theorem atI_neg (h0 : i < 0) (h1 : 0 ≤ i + ns.length) : atI (ns.map V.int) i = some (.int (nth ns (i + ns.length))) := by
  have hl : (i + ns.length).toNat < ns.length := by omega
  unfold atI ixN nth
  rw [List.length_map, if_neg (by omega), if_pos (by omega)]
  show (ns.map V.int)[(i + ns.length).toNat]? = _
  rw [List.getElem?_map, List.getD_eq_getElem?_getD, List.getElem?_eq_getElem hl]
  rfl
theorem wp_ixL (h : SqL K H a (ns.map V.int)) (h0 : 0 ≤ i) (h1 : i < ns.length) (q : Q (.int (nth ns i)) H) : rIxL K (.ref a) (.int i) H Q :=
  ⟨a, _, i, _, rfl, rfl, h, atI_nth h0 h1, q⟩
theorem wp_ixN (h : SqL K H a (ns.map V.int)) (h0 : i < 0) (h1 : 0 ≤ i + ns.length) (q : Q (.int (nth ns (i + ns.length))) H) : rIxL K (.ref a) (.int i) H Q :=
  ⟨a, _, i, _, rfl, rfl, h, atI_neg h0 h1, q⟩
theorem wp_lst {ta : TA} (q : ta σ H (kLst Q)) : tLst ta σ H Q := q
theorem wp_tup {ta : TA} (q : ta σ H (kTup Q)) : tTup ta σ H Q := q
theorem sz (n : Nat) (h : n ≤ 100000) : n ≤ sizeLine := Nat.le_trans h (by decide)
theorem szl {n : Nat} (h : n < 100000) : n < sizeLine := Nat.lt_of_lt_of_le h (by decide)
theorem wp_lst0 (q : ∀ p, H p = none → Q (.ref p) (upd H p (.lst (([] : List Int).map V.int)))) : kLst Q [] H := ⟨Nat.zero_le _, q⟩
theorem wp_lst1 (q : ∀ p, H p = none → Q (.ref p) (upd H p (.lst (([i] : List Int).map V.int)))) : kLst Q [.int i] H := ⟨sz _ (by decide : 1 ≤ _), q⟩
theorem wp_lst2 (q : ∀ p, H p = none → Q (.ref p) (upd H p (.lst (([i, j] : List Int).map V.int)))) : kLst Q [.int i, .int j] H := ⟨sz _ (by decide : 2 ≤ _), q⟩
theorem wp_lst3 {k : Int} (q : ∀ p, H p = none → Q (.ref p) (upd H p (.lst (([i, j, k] : List Int).map V.int)))) : kLst Q [.int i, .int j, .int k] H := ⟨sz _ (by decide : 3 ≤ _), q⟩
theorem wp_lst4 {k l : Int} (q : ∀ p, H p = none → Q (.ref p) (upd H p (.lst (([i, j, k, l] : List Int).map V.int)))) : kLst Q [.int i, .int j, .int k, .int l] H := ⟨sz _ (by decide : 4 ≤ _), q⟩
theorem wp_lst5 {k l m : Int} (q : ∀ p, H p = none → Q (.ref p) (upd H p (.lst (([i, j, k, l, m] : List Int).map V.int)))) : kLst Q [.int i, .int j, .int k, .int l, .int m] H := ⟨sz _ (by decide : 5 ≤ _), q⟩
theorem wp_lstR (h : xs.length ≤ 100000) (q : ∀ p, H p = none → Q (.ref p) (upd H p (.lst xs))) : kLst Q xs H := ⟨sz _ h, q⟩
theorem wp_kTup (h : xs.length ≤ 100000) (q : ∀ p, H p = none → Q (.ref p) (upd H p (.tup xs))) : kTup Q xs H := ⟨sz _ h, q⟩
theorem wp_tBM {T : String} {r : V → List V → Hp → VK → Prop} {to : TE} {ta : TA} (q : to σ H (kBM K T r ta σ Q)) : tBM K T r to ta σ H Q := q
theorem wp_tBM0 {T : String} {r : V → List V → Hp → VK → Prop} {to : TE} (q : to σ H (kBM0 K T r Q)) : tBM0 K T r to σ H Q := q
theorem wp_kBM {r : V → List V → Hp → VK → Prop} {ta : TA} (h : H a = some (.lst xs)) (q : ta σ H fun xs H2 => r (.ref a) xs H2 Q) : kBM K "list" r ta σ Q (.ref a) H :=
  ⟨.inl ⟨rfl, _, SqL.of h⟩, q⟩
theorem wp_kBM0 {r : V → List V → Hp → VK → Prop} (h : H a = some (.lst xs)) (q : r (.ref a) [] H Q) : kBM0 K "list" r Q (.ref a) H := ⟨.inl ⟨rfl, _, SqL.of h⟩, q⟩
theorem wp_appI (h : H a = some (.lst (ns.map V.int))) (hz : ns.length < 100000) (q : Q .non (upd H a (.lst ((ns ++ [i]).map V.int)))) : rAppend (.ref a) [.int i] H Q := by
  refine ⟨a, _, _, rfl, rfl, h, szl (by rw [List.length_map]; exact hz), ?_⟩
  rw [List.map_append] at q
  exact q
theorem wp_app (h : H a = some (.lst xs)) (hz : xs.length < 100000) (q : Q .non (upd H a (.lst (xs ++ [v])))) : rAppend (.ref a) [v] H Q := ⟨a, xs, v, rfl, rfl, h, szl hz, q⟩
/-! ### slices -/
theorem wp_sl {r : V → Option Int → Option Int → Hp → VK → Prop} {tl th : TO} (q : te σ H fun x H1 => tl σ H1 fun l H2 => th σ H2 fun u H3 => r x l u H3 Q) : tSl r te tl th σ H Q := q
theorem wp_part {Q : Option Int → Hp → Prop} (q : te σ H (kPart Q)) : tPart te σ H Q := q
theorem wp_kPart {Q : Option Int → Hp → Prop} (q : Q (some i) H) : kPart Q (.int i) H := ⟨i, rfl, q⟩
theorem wp_noPart {Q : Option Int → Hp → Prop} (q : Q none H) : tNoPart σ H Q := q
/-- a slice of ints -/
def cut (ns : List Int) (lo hi : Option Int) : List Int := (ns.drop (HT.sIx ns.length 0 lo)).take (HT.sIx ns.length ns.length hi - HT.sIx ns.length 0 lo)
theorem cutV_map (lo hi : Option Int) : cutV (ns.map V.int) lo hi = (cut ns lo hi).map V.int := by
  unfold cutV cut
  rw [List.length_map, List.map_take, List.map_drop]
theorem wp_slI {lo hi : Option Int} (h : SqL K H a (ns.map V.int)) (q : ∀ p, H p = none → Q (.ref p) (upd H p (.lst ((cut ns lo hi).map V.int)))) : rSlL K (.ref a) lo hi H Q :=
  ⟨a, _, rfl, h, fun p hp => by rw [cutV_map]; exact q p hp⟩
theorem wp_slR {lo hi : Option Int} (h : SqL K H a xs) (q : ∀ p, H p = none → Q (.ref p) (upd H p (.lst (cutV xs lo hi)))) : rSlL K (.ref a) lo hi H Q := ⟨a, _, rfl, h, q⟩
def kRev (K : PySem.W.Frag) (Q : VK) : VK := fun x H1 => ∃ a xs, x = .ref a ∧ SqL K H1 a xs ∧ ∀ p, H1 p = none → Q (.ref p) (upd H1 p (.lst xs.reverse))
theorem wp_rev (q : te σ H (kRev K Q)) : tRevL K te σ H Q := q
theorem wp_revI (h : SqL K H a (ns.map V.int)) (q : ∀ p, H p = none → Q (.ref p) (upd H p (.lst (ns.reverse.map V.int)))) : kRev K Q (.ref a) H :=
  ⟨a, _, rfl, h, fun p hp => by rw [← List.map_reverse]; exact q p hp⟩
theorem wp_revR (h : SqL K H a xs) (q : ∀ p, H p = none → Q (.ref p) (upd H p (.lst xs.reverse))) : kRev K Q (.ref a) H := ⟨a, _, rfl, h, q⟩
theorem wp_catI (h : H a = some (.lst (ns.map V.int))) (h' : H b = some (.lst (ms.map V.int))) (hz : ns.length + ms.length ≤ 100000) (q : ∀ p, H p = none → Q (.ref p) (upd H p (.lst ((ns ++ ms).map V.int)))) : rCat (.ref a) (.ref b) H Q :=
  ⟨a, b, _, _, rfl, rfl, h, h', sz _ (by rw [List.length_map, List.length_map]; exact hz), fun p hp => by rw [← List.map_append]; exact q p hp⟩
theorem wp_catR (h : H a = some (.lst xs)) (h' : H b = some (.lst ys)) (hz : xs.length + ys.length ≤ 100000) (q : ∀ p, H p = none → Q (.ref p) (upd H p (.lst (xs ++ ys)))) : rCat (.ref a) (.ref b) H Q :=
  ⟨a, b, _, _, rfl, rfl, h, h', sz _ hz, q⟩
/-! ### == of lists of ints -/
theorem dpAll_ints : ∀ ns : List Int, DpAll K H (ns.map V.int) (ns.map PyData.int)
  | [] => .nil
  | n :: r => .cons (.int n) (dpAll_ints r)
theorem eqvAll_ints : ∀ ns ms : List Int, PyData.eqvAll (ns.map PyData.int) (ms.map PyData.int) = decide (ns = ms)
  | [], [] => by simp [PyData.eqvAll]
  | [], _ :: _ => by simp [PyData.eqvAll]
  | _ :: _, [] => by simp [PyData.eqvAll]
  | n :: r, m :: s => by
    simp only [List.map_cons, PyData.eqvAll, PyData.eqv, eqvAll_ints r s]
    by_cases e : n = m <;> by_cases f : r = s <;> simp [e, f]
theorem canLay_ints : ∀ ns : List Int, PyData.canLayAll0 (ns.map PyData.int) = true
  | [] => by simp [PyData.canLayAll0]
  | n :: r => by simp [PyData.canLayAll0, PyData.canLay0, canLay_ints r]
theorem depth_ints : ∀ ns : List Int, PyData.depthAll (ns.map PyData.int) = 0
  | [] => by simp [PyData.depthAll]
  | n :: r => by simp [PyData.depthAll, PyData.depth, depth_ints r]
theorem shaped_ints (ns : List Int) : SeqAt.shaped (.list (ns.map PyData.int)) = true := by
  simp [SeqAt.shaped, PyData.canLay0, PyData.depth, canLay_ints, depth_ints]
theorem wp_eqL (h : SqL K H a (ns.map V.int)) (h' : SqL K H b (ms.map V.int)) (q : Q (.bl (decide (ns = ms))) H) : rEqD K (.ref a) (.ref b) H Q := by
  refine ⟨.list (ns.map PyData.int), .list (ms.map PyData.int), .lst h (dpAll_ints ns), .lst h' (dpAll_ints ms), shaped_ints _, shaped_ints _, ?_⟩
  show Q (.bl (PyData.eqvAll _ _)) H
  rw [eqvAll_ints]
  exact q
theorem wp_neL (h : SqL K H a (ns.map V.int)) (h' : SqL K H b (ms.map V.int)) (q : Q (.bl (!decide (ns = ms))) H) : rNeD K (.ref a) (.ref b) H Q := by
  refine ⟨.list (ns.map PyData.int), .list (ms.map PyData.int), .lst h (dpAll_ints ns), .lst h' (dpAll_ints ms), shaped_ints _, shaped_ints _, ?_⟩
  show Q (.bl (!PyData.eqvAll _ _)) H
  rw [eqvAll_ints]
  exact q
/-! ### loops -/
theorem wp_for {wi : TI} {g : TG} (q : wi σ H (kFor g t D σ)) : tFor wi g t D σ H := q
theorem wp_lc {wi : TI} {g : TG} {ws : List Nat} (q : wi σ H (kLc g tt te ws σ Q)) : tLc wi g tt te ws σ H Q := q
theorem wp_iList {R : It → Hp → Prop} (q : te σ H (kIList K R)) : iList K te σ H R := q
theorem wp_kIList {R : It → Hp → Prop} (h : SqL K H a xs) (q : R (Itl K a) H) : kIList K R (.ref a) H := ⟨a, rfl, ⟨xs, h⟩, q⟩
theorem wp_iRng1 {R : It → Hp → Prop} {ta : TA} (q : ta σ H (kRng1 R)) : iRng1 ta σ H R := q
theorem wp_kRng1 {R : It → Hp → Prop} (h : -100000000 ≤ i ∧ i < 100000000) (q : R (Itr 0 i.toNat) H) : kRng1 R [.int i] H := ⟨i, rfl, by omega, by omega, q⟩
theorem wp_iRng2 {R : It → Hp → Prop} {ta : TA} (q : ta σ H (kRng2 R)) : iRng2 ta σ H R := q
theorem wp_kRng2 {R : It → Hp → Prop} (h : -100000000 ≤ i ∧ i < 100000000) (h' : -100000000 ≤ j ∧ j < 100000000) (q : R (Itr i (j - i).toNat) H) : kRng2 R [.int i, .int j] H := ⟨i, j, rfl, by omega, q⟩
theorem wp_iEnum {R : It → Hp → Prop} {ta : TA} (q : ta σ H (kEnum K R)) : iEnum K ta σ H R := q
theorem wp_kEnum {R : It → Hp → Prop} (h : SqL K H a xs) (q : R (Ite K a) H) : kEnum K R [.ref a] H := ⟨a, xs, rfl, h, q⟩
theorem wp_gName {n : Nat} {Q : L2.St → Hp → Prop} (h : σ.set n (some v) = σ') (q : Q σ' H) : gName n v σ H Q := by
  show Q (σ.set n (some v)) H
  rw [h]
  exact q
theorem wp_gTup {n : Nat} {g : TGs} {Q : L2.St → Hp → Prop} (h : SqT K H a xs) (hl : xs.length = n) (q : g xs σ H Q) : gTup K n g (.ref a) σ H Q := ⟨a, xs, rfl, h, hl, q⟩
theorem wp_gCons {g : TG} {gs : TGs} {Q : L2.St → Hp → Prop} (q : g v σ H fun σ' H' => gs xs σ' H' Q) : gCons g gs (v :: xs) σ H Q := ⟨v, xs, rfl, q⟩
theorem wp_gNil {Q : L2.St → Hp → Prop} (q : Q σ H) : gNil [] σ H Q := ⟨rfl, q⟩
/-- a for over a list of ints -/
theorem forI {g : TG} (Pv : Nat → L2.St → Hp → Prop) (h0 : Pv 0 σ H) (hl : ∀ i σ' H', i ≤ ns.length → Pv i σ' H' → SqL K H' a (ns.map V.int))
    (hs : ∀ (i : Nat) σ' H', i < ns.length → Pv i σ' H' → g (.int (nth ns i)) σ' H' fun σ2 H2 => t { D with nx := Pv (i + 1), ct := Pv (i + 1), bk := D.nx } σ2 H2) (hd : ∀ σ' H', Pv ns.length σ' H' → D.nx σ' H') : kFor g t D σ (Itl K a) H := by
  refine for_list (K := K) (a := a) (xs := ns.map V.int) Pv h0 (fun i σ' H' hi p => hl i σ' H' (by rw [List.length_map] at hi; exact hi) p) (fun i x σ' H' e p => ?_) (fun σ' H' p => hd σ' H' (by rw [List.length_map] at p; exact p))
  have hi : i < ns.length := by
    have := (List.getElem?_eq_some_iff.mp e).1
    rw [List.length_map] at this
    exact this
  have ex : x = .int (nth ns i) := by
    have q := atI_nth (ns := ns) (i := (i : Int)) (by omega) (by omega)
    unfold nth
    rw [List.getElem?_map, List.getElem?_eq_getElem hi] at e
    rw [← Option.some.inj e]
    simp [List.getD_eq_getElem?_getD, hi]
  subst ex
  exact hs i σ' H' hi p
/-- a for over a list of anything -/
theorem forR {g : TG} (Pv : Nat → L2.St → Hp → Prop) (h0 : Pv 0 σ H) (hl : ∀ i σ' H', i ≤ xs.length → Pv i σ' H' → SqL K H' a xs)
    (hs : ∀ (i : Nat) x σ' H', xs[i]? = some x → Pv i σ' H' → g x σ' H' fun σ2 H2 => t { D with nx := Pv (i + 1), ct := Pv (i + 1), bk := D.nx } σ2 H2) (hd : ∀ σ' H', Pv xs.length σ' H' → D.nx σ' H') : kFor g t D σ (Itl K a) H :=
  for_list (K := K) (a := a) (xs := xs) Pv h0 hl hs hd
theorem forN {g : TG} {lo : Int} {n : Nat} (Pv : Nat → L2.St → Hp → Prop) (h0 : Pv 0 σ H)
    (hs : ∀ (i : Nat) σ' H', i < n → Pv i σ' H' → g (.int (lo + i)) σ' H' fun σ2 H2 => t { D with nx := Pv (i + 1), ct := Pv (i + 1), bk := D.nx } σ2 H2) (hd : ∀ σ' H', Pv n σ' H' → D.nx σ' H') : kFor g t D σ (Itr lo n) H :=
  for_range Pv h0 hs hd
/-- a for over enumerate of a list of ints -/
theorem forE {g : TG} (Pv : Nat → L2.St → Hp → Prop) (h0 : Pv 0 σ H) (hl : ∀ i σ' H', i ≤ ns.length → Pv i σ' H' → SqL K H' a (ns.map V.int))
    (hs : ∀ (i : Nat) σ' H' T, i < ns.length → Pv i σ' H' → H' T = none → g (.ref T) σ' (upd H' T (.tup [.int i, .int (nth ns i)])) fun σ2 H2 => t { D with nx := Pv (i + 1), ct := Pv (i + 1), bk := D.nx } σ2 H2) (hd : ∀ σ' H', Pv ns.length σ' H' → D.nx σ' H') : kFor g t D σ (Ite K a) H := by
  refine for_it (walk_enum (K := K) (a := a) (xs := ns.map V.int)) Pv h0 (fun i σ' H' hi p => hl i σ' H' (by rw [List.length_map] at hi; exact hi) p) (fun i x σ' H' H2 hi p y => ?_) (fun σ' H' p => hd σ' H' (by rw [List.length_map] at p; exact p))
  rw [List.length_map] at hi
  obtain ⟨T, x1, y1, rfl, hn, rfl, e1, e2⟩ := y
  have e1' : x1 = .int i := (Option.some.inj e1).symm
  have ey : y1 = .int (nth ns i) := by
    unfold nth
    have e2' : (ns.map V.int)[i]? = some y1 := e2
    rw [List.getElem?_map, List.getElem?_eq_getElem hi] at e2'
    rw [← Option.some.inj e2']
    simp [List.getD_eq_getElem?_getD, hi]
  subst e1' ey
  exact hs i σ' H' T hi p hn
/-- while True: a word with a number that falls; nothing that stood is changed -/
theorem whileTS (R : Nat → L2.St → Prop) (m0 : Nat) (h0 : R m0 σ)
    (hs : ∀ (m : Nat) σ' H', R m σ' → Same H H' → t { D with nx := fun σ2 H2 => ∃ m', m' < m ∧ R m' σ2 ∧ Same H H2, ct := fun σ2 H2 => ∃ m', m' < m ∧ R m' σ2 ∧ Same H H2, bk := D.nx } σ' H') : tWhile (tB (tC (.bl true))) t D σ H := by
  refine ⟨fun m σ' H' => R m σ' ∧ Same H H', ⟨m0, h0, Same.refl H⟩, ?_⟩
  rintro m σ' H' ⟨r, s⟩
  refine ⟨true, rfl, ?_⟩
  exact ⟨_, fun σ2 H2 z => z, hs m σ' H' r s⟩
/-- loops that change nothing that stood: the word speaks of the slots alone -/
theorem forIS {g : TG} (ha : SqL K H a (ns.map V.int)) (R : Nat → L2.St → Prop) (h0 : R 0 σ)
    (hs : ∀ (i : Nat) σ' H', i < ns.length → R i σ' → Same H H' → g (.int (nth ns i)) σ' H' fun σ2 H2 => t { D with nx := fun σ3 H3 => R (i + 1) σ3 ∧ Same H H3, ct := fun σ3 H3 => R (i + 1) σ3 ∧ Same H H3, bk := D.nx } σ2 H2)
    (hd : ∀ σ' H', R ns.length σ' → Same H H' → D.nx σ' H') : kFor g t D σ (Itl K a) H :=
  forI (ns := ns) (fun i σ' H' => R i σ' ∧ Same H H') ⟨h0, Same.refl H⟩ (fun i σ' H' _ p => p.2.seq ha) (fun i σ' H' hi p => hs i σ' H' hi p.1 p.2) (fun σ' H' p => hd σ' H' p.1 p.2)
theorem forRS {g : TG} (ha : SqL K H a xs) (R : Nat → L2.St → Prop) (h0 : R 0 σ)
    (hs : ∀ (i : Nat) x σ' H', xs[i]? = some x → R i σ' → Same H H' → g x σ' H' fun σ2 H2 => t { D with nx := fun σ3 H3 => R (i + 1) σ3 ∧ Same H H3, ct := fun σ3 H3 => R (i + 1) σ3 ∧ Same H H3, bk := D.nx } σ2 H2)
    (hd : ∀ σ' H', R xs.length σ' → Same H H' → D.nx σ' H') : kFor g t D σ (Itl K a) H :=
  forR (xs := xs) (fun i σ' H' => R i σ' ∧ Same H H') ⟨h0, Same.refl H⟩ (fun i σ' H' _ p => p.2.seq ha) (fun i x σ' H' hi p => hs i x σ' H' hi p.1 p.2) (fun σ' H' p => hd σ' H' p.1 p.2)
theorem forNS {g : TG} {lo : Int} {n : Nat} (R : Nat → L2.St → Prop) (h0 : R 0 σ)
    (hs : ∀ (i : Nat) σ' H', i < n → R i σ' → Same H H' → g (.int (lo + i)) σ' H' fun σ2 H2 => t { D with nx := fun σ3 H3 => R (i + 1) σ3 ∧ Same H H3, ct := fun σ3 H3 => R (i + 1) σ3 ∧ Same H H3, bk := D.nx } σ2 H2)
    (hd : ∀ σ' H', R n σ' → Same H H' → D.nx σ' H') : kFor g t D σ (Itr lo n) H :=
  forN (fun i σ' H' => R i σ' ∧ Same H H') ⟨h0, Same.refl H⟩ (fun i σ' H' hi p => hs i σ' H' hi p.1 p.2) (fun σ' H' p => hd σ' H' p.1 p.2)
theorem forES {g : TG} (ha : SqL K H a (ns.map V.int)) (R : Nat → L2.St → Prop) (h0 : R 0 σ)
    (hs : ∀ (i : Nat) σ' H' T, i < ns.length → R i σ' → Same H H' → H' T = none → g (.ref T) σ' (upd H' T (.tup [.int i, .int (nth ns i)])) fun σ2 H2 => t { D with nx := fun σ3 H3 => R (i + 1) σ3 ∧ Same H H3, ct := fun σ3 H3 => R (i + 1) σ3 ∧ Same H H3, bk := D.nx } σ2 H2)
    (hd : ∀ σ' H', R ns.length σ' → Same H H' → D.nx σ' H') : kFor g t D σ (Ite K a) H :=
  forE (ns := ns) (fun i σ' H' => R i σ' ∧ Same H H') ⟨h0, Same.refl H⟩ (fun i σ' H' _ p => p.2.seq ha) (fun i σ' H' T hi p nT => hs i σ' H' T hi p.1 p.2 nT) (fun σ' H' p => hd σ' H' p.1 p.2)
end
end Bs

namespace Bs
open PySem L2
/-- the classes' addresses -/
structure Cs where
  Answer : Addr := 0
  Best : Addr := 0
  Steep : Addr := 0
  Around : Addr := 0
  Exact : Addr := 0
  Never : Addr := 0
  Several : Addr := 0
  StretchError : Addr := 0
  BadRow : Addr := 0
  BadLeast : Addr := 0
  BadTotal : Addr := 0
  BadMany : Addr := 0
/-- a law's promise -/
def spLaw (K : PySem.W.Frag) : Sp := fun vs H Q _ => ∃ (a : Addr) (ns : List Int), vs = [.ref a] ∧ SqL K H a (ns.map V.int) ∧ ns.length ≤ 63 ∧ ∀ H', Q (.bl true) H'
theorem len1 {vs : List V} {a : V} (h : vs = [a]) : vs.length = 1 := by rw [h]; rfl

section
variable {K : PySem.W.Frag} {σ σ' : L2.St} {H H' : Hp} {Q : VK} {QB : Bool → Hp → Prop} {ta tb te : TE} {tt uu : TT} {t u : TS} {D : Ends} {v x y : V} {i j : Int} {r : R2} {a b p : Addr} {ns ms : List Int} {xs ys vs : List V} {c d : Bool}
/-! ### comprehensions -/
theorem lcW {J : It} {n : Nat} {G : Hp → Prop} {X : Nat → V} {g : TG} {ws : List Nat} {σi : Nat → L2.St} (w : Walk J n G (fun i H x H' => H' = H ∧ x = X i)) (b : Nat → Bool) (v : Nat → V) (hn : n ≤ 100000)
    (hG : ∀ H', Same H H' → G H') (hg : ∀ i H' k, k (σi i) H' → g (X i) (wipe σ ws) H' k) (hw : ∀ i, wipe (σi i) ws = wipe σ ws)
    (ht : ∀ i H', i < n → Same H H' → ∀ Q' : Bool → Hp → Prop, (∀ H'', Same H' H'' → Q' (b i) H'') → tt (σi i) H' Q')
    (he : ∀ i H', i < n → b i = true → Same H H' → ∀ Q' : VK, (∀ H'', Same H' H'' → Q' (v i) H'') → te (σi i) H' Q')
    (q : ∀ p H', H p = none → Same H H' → H' p = some (.lst (((List.range n).filter b).map v)) → Q (.ref p) H') : kLc g tt te ws σ Q J H := by
  intro D hD
  refine lc_it w (Qd := fun H' => Q (.ref D) H') (fun i H' => Same H H' ∧ H' D = some (.lst (((List.range i).filter b).map v))) ⟨same_new (Same.refl H) hD, upd_same⟩ (fun i H' _ p => hG H' p.1) ?_ (fun H' p => q D H' hD p.1 p.2)
  rintro i x H1 H2 hi ⟨s1, d1⟩ ⟨rfl, rfl⟩
  refine hg i _ _ ⟨hw i, ht i H2 hi s1 _ fun H3 s3 => ?_⟩
  have d3 := s3 _ _ d1
  have e : ((List.range (i + 1)).filter b).map v = if b i = true then ((List.range i).filter b).map v ++ [v i] else ((List.range i).filter b).map v := by
    rw [List.range_succ, List.filter_append, List.map_append]
    cases hb : b i <;> simp [hb]
  by_cases hb : b i = true
  · rw [if_pos hb] at e
    rw [if_pos hb]
    refine he i H3 hi hb (s1.trans s3) _ fun H4 s4 => ⟨_, s4 _ _ d3, szl ?_, same_mut ((s1.trans s3).trans s4) hD, ?_⟩
    · rw [List.length_map]
      have := List.length_filter_le b (List.range i)
      rw [List.length_range] at this
      omega
    · rw [e]
      exact upd_same
  · rw [if_neg hb] at e
    rw [if_neg hb, e]
    exact ⟨s1.trans s3, d3⟩
theorem map_range_nth {α : Type} (f : Int → α) (ns : List Int) : (List.range ns.length).map (fun i : Nat => f (nth ns i)) = ns.map f := by
  apply List.ext_getElem
  · simp
  · intro i h1 h2
    simp at h1
    simp [nth, h1]
theorem walkI {ns : List Int} : Walk (Itl K a) ns.length (fun H => SqL K H a (ns.map V.int)) (fun i H x H' => H' = H ∧ x = .int (nth ns i)) := by
  have w := walk_list (K := K) (a := a) (xs := ns.map V.int)
  rw [List.length_map] at w
  refine w.mono (fun _ h => h) fun i H x H' hi _ y => ⟨y.1, ?_⟩
  have e := y.2
  rw [List.getElem?_map, List.getElem?_eq_getElem hi] at e
  rw [← Option.some.inj e]
  simp [nth, hi]
/-- over a list of ints, each item's value by f -/
theorem lcI {k : Nat} (f : Int → V) (h : SqL K H a (ns.map V.int)) (hn : ns.length ≤ 100000) (hw : ∀ x : V, wipe ((wipe σ [k]).set k (some x)) [k] = wipe σ [k])
    (he : ∀ (i : Nat) H', i < ns.length → Same H H' → ∀ Q' : VK, (∀ H'', Same H' H'' → Q' (f (nth ns i)) H'') → te ((wipe σ [k]).set k (some (.int (nth ns i)))) H' Q')
    (q : ∀ p H', H p = none → Same H H' → H' p = some (.lst (ns.map f)) → Q (.ref p) H') : kLc (gName k) tYes te [k] σ Q (Itl K a) H := by
  refine lcW (σi := fun i => (wipe σ [k]).set k (some (.int (nth ns i)))) (walkI (ns := ns)) (fun _ => true) (fun i => f (nth ns i)) hn (fun H' s => s.seq h) (fun i H' k' z => z) (fun i => hw _) (fun i H' _ _ Q' z => z H' (Same.refl H')) (fun i H' hi _ s => he i H' hi s) fun p H' np s hp => ?_
  refine q p H' np s ?_
  rw [hp, ← map_range_nth f ns]
  congr 2
  rw [List.filter_eq_self.mpr (fun _ _ => rfl)]
theorem lcI_int {k : Nat} (f : Int → Int) (h : SqL K H a (ns.map V.int)) (hn : ns.length ≤ 100000) (hw : ∀ x : V, wipe ((wipe σ [k]).set k (some x)) [k] = wipe σ [k])
    (he : ∀ (i : Nat) H', i < ns.length → Same H H' → ∀ Q' : VK, (∀ H'', Same H' H'' → Q' (.int (f (nth ns i))) H'') → te ((wipe σ [k]).set k (some (.int (nth ns i)))) H' Q')
    (q : ∀ p H', H p = none → Same H H' → H' p = some (.lst ((ns.map f).map V.int)) → Q (.ref p) H') : kLc (gName k) tYes te [k] σ Q (Itl K a) H :=
  lcI (fun n => .int (f n)) h hn hw he fun p H' np s hp => q p H' np s (by rw [hp, List.map_map]; rfl)
theorem lcI_bl {k : Nat} (f : Int → Bool) (h : SqL K H a (ns.map V.int)) (hn : ns.length ≤ 100000) (hw : ∀ x : V, wipe ((wipe σ [k]).set k (some x)) [k] = wipe σ [k])
    (he : ∀ (i : Nat) H', i < ns.length → Same H H' → ∀ Q' : VK, (∀ H'', Same H' H'' → Q' (.bl (f (nth ns i))) H'') → te ((wipe σ [k]).set k (some (.int (nth ns i)))) H' Q')
    (q : ∀ p H', H p = none → Same H H' → H' p = some (.lst ((ns.map f).map V.bl)) → Q (.ref p) H') : kLc (gName k) tYes te [k] σ Q (Itl K a) H :=
  lcI (fun n => .bl (f n)) h hn hw he fun p H' np s hp => q p H' np s (by rw [hp, List.map_map]; rfl)
/-- over a range, each turn's value by f -/
theorem lcN {k : Nat} {lo : Int} {n : Nat} (f : Nat → V) (hn : n ≤ 100000) (hw : ∀ x : V, wipe ((wipe σ [k]).set k (some x)) [k] = wipe σ [k])
    (he : ∀ (i : Nat) H', i < n → Same H H' → ∀ Q' : VK, (∀ H'', Same H' H'' → Q' (f i) H'') → te ((wipe σ [k]).set k (some (.int (lo + i)))) H' Q')
    (q : ∀ p H', H p = none → Same H H' → H' p = some (.lst ((List.range n).map f)) → Q (.ref p) H') : kLc (gName k) tYes te [k] σ Q (Itr lo n) H := by
  refine lcW (σi := fun i => (wipe σ [k]).set k (some (.int (lo + i)))) (walk_range (lo := lo) (n := n)) (fun _ => true) f hn (fun _ _ => trivial) (fun i H' k' z => z) (fun i => hw _) (fun i H' _ _ Q' z => z H' (Same.refl H')) (fun i H' hi _ s => he i H' hi s) fun p H' np s hp => ?_
  refine q p H' np s ?_
  rw [hp, List.filter_eq_self.mpr (fun _ _ => rfl)]
/-- if c: x = e, x an int -/
theorem wp_kIfSetI {n : Nat} {old new : Int} (h : σ[n]? = some (some (.int old))) (he : c = true → ∀ Q' : VK, Q' (.int new) H → te σ H Q') (q : ∀ z : Int, z = (if c = true then new else old) → D.nx (σ.set n (some (.int z))) H) : kIfS (tAsg te (gName n)) tNext D σ c H := by
  cases c with
  | true => exact he rfl _ (q new (by rw [if_pos rfl]))
  | false =>
    have e : σ.set n (some (.int old)) = σ := by
      obtain ⟨hn, e⟩ := List.getElem?_eq_some_iff.mp h
      rw [← e, List.set_getElem_self]
    have z := q old (by rw [if_neg (by decide)])
    rw [e] at z
    exact z
/-- reversed(range(n)) -/
def kRev1 (R : It → Hp → Prop) : VK := fun x H1 => ∃ n : Int, x = .int n ∧ (-(2 ^ 62) ≤ (0 : Int) ∧ (0 : Int) < 2 ^ 62 ∧ -(2 ^ 62) ≤ n ∧ n < 2 ^ 62 ∧ R (Itc (0 + (((n - 0).toNat : Nat) : Int) - 1) (-1) (n - 0).toNat) H1)
theorem wp_iRevR1 {R : It → Hp → Prop} (q : ta σ H (kRev1 R)) : iRevR (tRg1 ta) σ H R := q
theorem wp_kRev1 {R : It → Hp → Prop} {n : Nat} (h : n ≤ 100000) (q : R (Itc ((n : Int) - 1) (-1) n) H) : kRev1 R (.int n) H := by
  have e : ((n : Int) - 0).toNat = n := by omega
  refine ⟨n, rfl, by omega, by omega, by omega, by omega, ?_⟩
  rw [e, Int.zero_add]
  exact q
theorem forRev {g : TG} {n : Nat} (Pv : Nat → L2.St → Hp → Prop) (h0 : Pv 0 σ H)
    (hs : ∀ (i : Nat) σ' H', i < n → Pv i σ' H' → g (.int ((n - 1 - i : Nat) : Int)) σ' H' fun σ2 H2 => t { D with nx := Pv (i + 1), ct := Pv (i + 1), bk := D.nx } σ2 H2) (hd : ∀ σ' H', Pv n σ' H' → D.nx σ' H') : kFor g t D σ (Itc ((n : Int) - 1) (-1) n) H :=
  for_rangeC Pv h0 (fun i σ' H' hi p => by
    have e : ((n : Int) - 1) + (i : Nat) * (-1) = ((n - 1 - i : Nat) : Int) := by omega
    rw [e]
    exact hs i σ' H' hi p) hd
theorem wp_tYes {Q : Bool → Hp → Prop} (q : Q true H) : tYes σ H Q := q
/-! ### all, any, isinstance -/
theorem wp_all {bs : List Bool} (h : H a = some (.lst (bs.map V.bl))) (q : Q (.bl (bs.all id)) H) : rAll K [.ref a] H Q := ⟨a, bs, rfl, SqL.of h, q⟩
theorem wp_any {bs : List Bool} (h : H a = some (.lst (bs.map V.bl))) (q : Q (.bl (bs.any id)) H) : rAny K [.ref a] H Q := ⟨a, bs, rfl, SqL.of h, q⟩
theorem isi_int (q : Q (.bl true) H) : rIsi K [.int i, .ty "int"] H Q := ⟨_, _, _, _, true, rfl, .ty _, .base (.int i), kit_ty (by decide +kernel), q⟩
theorem isi_int_bool (q : Q (.bl false) H) : rIsi K [.int i, .ty "bool"] H Q := ⟨_, _, _, _, false, rfl, .ty _, .base (.int i), kit_ty (by decide +kernel), q⟩
theorem isi_bool (q : Q (.bl true) H) : rIsi K [.bl c, .ty "bool"] H Q := ⟨_, _, _, _, true, rfl, .ty _, .base (.bl c), kit_ty (by decide +kernel), q⟩
theorem isi_list (h : H a = some (.lst xs)) (q : Q (.bl true) H) : rIsi K [.ref a, .ty "list"] H Q := ⟨_, _, _, _, true, rfl, .ty _, .base (.lst h), kit_ty (by decide +kernel), q⟩
theorem isi_tup (h : H a = some (.tup xs)) (q : Q (.bl true) H) : rIsi K [.ref a, .ty "tuple"] H Q := ⟨_, _, _, _, true, rfl, .ty _, .base (.tup h), kit_ty (by decide +kernel), q⟩
/-! ### dicts of ints -/
def kD2 (ty tx : TE) (σ : L2.St) (Q : VK) : VK := fun x H1 => ∃ a, x = .ref a ∧ IsD H1 a ∧ ty σ H1 fun y H2 => tx σ H2 fun z H3 => ∃ o, DGet H3 a y o ∧ Q (o.getD z) H3
theorem wp_dget2 {td ty tx : TE} (q : td σ H (kD2 ty tx σ Q)) : tDGet2 td ty tx σ H Q := q
theorem wp_kD2 {kvs : List (Key × V)} {ty tx : TE} {n m : Int} (h : H a = some (.dK kvs)) (hy : ∀ Q' : VK, Q' (.int n) H → ty σ H Q') (hx : ∀ Q' : VK, Q' (.int m) H → tx σ H Q') (q : Q ((valV kvs (.inl n)).getD (.int m)) H) : kD2 ty tx σ Q (.ref a) H :=
  ⟨a, rfl, .inl ⟨kvs, .inl h⟩, hy _ (hx _ ⟨_, DGet.k (k := Sum.inl n) h, q⟩)⟩
def kPut (ty : TE) (D : Ends) (σ : L2.St) (td : TE) : VK := fun v H1 => td σ H1 fun x H2 => ty σ H2 fun y H3 => ∃ a H4, x = .ref a ∧ DPut H3 a y v H4 ∧ D.nx σ H4
theorem wp_dput {td ty tv : TE} (q : tv σ H (kPut ty D σ td)) : sDPut td ty tv D σ H := q
def kPut2 (v : V) (D : Ends) (σ : L2.St) : V → V → Hp → Prop := fun x y H3 => ∃ a H4, x = .ref a ∧ DPut H3 a y v H4 ∧ D.nx σ H4
theorem wp_kPut {td ty : TE} (q : td σ H fun x H2 => ty σ H2 fun y H3 => kPut2 v D σ x y H3) : kPut ty D σ td v H := q
theorem wp_kPut2 {kvs : List (Key × V)} {n : Int} (h : H a = some (.dK kvs)) (hl : kvs.length < 100000) (q : D.nx σ (upd H a (.dK (putK kvs (.inl n) v)))) : kPut2 v D σ (.ref a) (.int n) H :=
  ⟨a, _, rfl, DPut.k (k := Sum.inl n) h (szl hl), q⟩
theorem wp_dnew (q : ∀ p, H p = none → Q (.ref p) (upd H p (.dK []))) : tDNewK σ H Q := q
def kIn (Q : VK) : V → V → Hp → Prop := fun y x H2 => ∃ a o, x = .ref a ∧ DGet H2 a y o ∧ Q (.bl o.isSome) H2
def kNin (Q : VK) : V → V → Hp → Prop := fun y x H2 => ∃ a o, x = .ref a ∧ DGet H2 a y o ∧ Q (.bl (!o.isSome)) H2
theorem wp_din {ty td : TE} (q : ty σ H fun y H1 => td σ H1 fun x H2 => kIn Q y x H2) : tDIn ty td σ H Q := q
theorem wp_dnin {ty td : TE} (q : ty σ H fun y H1 => td σ H1 fun x H2 => kNin Q y x H2) : tDNotIn ty td σ H Q := q
theorem wp_kIn {kvs : List (Key × V)} {n : Int} (h : Rd H a (.dK kvs)) (q : Q (.bl (valV kvs (.inl n)).isSome) H) : kIn Q (.int n) (.ref a) H := ⟨a, _, rfl, .inl ⟨kvs, .inl n, h, rfl, rfl⟩, q⟩
theorem wp_kNin {kvs : List (Key × V)} {n : Int} (h : Rd H a (.dK kvs)) (q : Q (.bl (!(valV kvs (.inl n)).isSome)) H) : kNin Q (.int n) (.ref a) H := ⟨a, _, rfl, .inl ⟨kvs, .inl n, h, rfl, rfl⟩, q⟩
def kGet (Q : VK) : V → V → Hp → Prop := fun x y H2 => ∃ a v, x = .ref a ∧ DGet H2 a y (some v) ∧ Q v H2
theorem wp_dget {td ty : TE} (q : td σ H fun x H1 => ty σ H1 fun y H2 => kGet Q x y H2) : tDGet td ty σ H Q := q
theorem wp_kGet {kvs : List (Key × V)} {n : Int} (h : Rd H a (.dK kvs)) (e : valV kvs (.inl n) = some v) (q : Q v H) : kGet Q (.ref a) (.int n) H := ⟨a, v, rfl, .inl ⟨kvs, .inl n, h, rfl, e.symm⟩, q⟩
theorem putK_len' (kvs : List (Key × V)) (k : Key) (x : V) : (putK kvs k x).length ≤ kvs.length + 1 := by
  unfold putK
  split
  · simp
  · simp
end

/-! ### sums from the beginning -/
def pre (ns : List Int) (i : Nat) : Int := (ns.take i).sum
/-- all of them -/
def psums (ns : List Int) : List Int := (List.range (ns.length + 1)).map (pre ns)
def psumsTo (ns : List Int) (i : Nat) : List Int := (List.range (i + 1)).map (pre ns)
theorem psumsTo_zero (ns : List Int) : psumsTo ns 0 = [0] := by simp [psumsTo, pre]
theorem psumsTo_all (ns : List Int) : psumsTo ns ns.length = psums ns := rfl
theorem psums_length (ns : List Int) : (psums ns).length = ns.length + 1 := by simp [psums]
theorem psumsTo_length (ns : List Int) (i : Nat) : (psumsTo ns i).length = i + 1 := by simp [psumsTo]
theorem pre_zero (ns : List Int) : pre ns 0 = 0 := by simp [pre]
theorem pre_succ {ns : List Int} {i : Nat} (h : i < ns.length) : pre ns (i + 1) = pre ns i + nth ns i := by
  have e : ns[i]? = some (nth ns i) := by simp [nth, h]
  exact sum_take e
theorem nth_psumsTo (ns : List Int) {i j : Nat} (h : j ≤ i) : nth (psumsTo ns i) j = pre ns j := by
  unfold nth psumsTo
  have : j < i + 1 := by omega
  simp [this]
theorem nth_psums (ns : List Int) {j : Nat} (h : j ≤ ns.length) : nth (psums ns) j = pre ns j := nth_psumsTo ns h
theorem psumsTo_succ {ns : List Int} {i : Nat} (h : i < ns.length) : psumsTo ns (i + 1) = psumsTo ns i ++ [pre ns i + nth ns i] := by
  unfold psumsTo
  rw [List.range_succ, List.map_append, ← pre_succ h]
  try rfl
theorem psums_nil : psums [] = [0] := by simp [psums, pre]
theorem psums_cons (n : Int) (r : List Int) : psums (n :: r) = 0 :: (psums r).map (n + ·) := by
  unfold psums
  rw [List.length_cons, List.range_succ_eq_map, List.map_cons, List.map_map, List.map_map, pre_zero]
  congr 1
theorem psums_neg (r : List Int) : psums (r.map (- ·)) = (psums r).map (- ·) := by
  induction r with
  | nil => simp [psums_nil]
  | cons n r ih =>
    rw [List.map_cons, psums_cons, psums_cons, ih, List.map_cons, List.map_map, List.map_map]
    congr 1
    apply List.map_congr_left
    intro x _
    simp
    omega
theorem psums_snoc (r : List Int) (n : Int) : psums (r ++ [n]) = psums r ++ [r.sum + n] := by
  unfold psums
  rw [List.length_append, List.length_singleton, List.range_succ, List.map_append]
  congr 1
  · apply List.map_congr_left
    intro i hi
    rw [List.mem_range] at hi
    unfold pre
    rw [List.take_append_of_le_length (by omega)]
  · have : (r ++ [n]).take (r.length + 1) = r ++ [n] := List.take_of_length_le (by simp)
    simp [pre, this]
theorem psums_rev (r : List Int) : psums r.reverse = (psums r).reverse.map (r.sum - ·) := by
  induction r with
  | nil => simp [psums_nil]
  | cons n r ih =>
    rw [List.reverse_cons, psums_snoc, ih, psums_cons, List.reverse_cons, List.map_append, List.sum_cons, ← List.map_reverse, List.map_map]
    congr 1
    · apply List.map_congr_left
      intro x _
      simp
      omega
    · have e : ∀ l : List Int, l.reverse.sum = l.sum := fun l => by
        induction l with
        | nil => rfl
        | cons x l ih => rw [List.reverse_cons, List.sum_append, ih]; simp; omega
      simp
      omega
/-! ### how many pairs part by t -/
def pairs (t : Int) : List Int → Int
  | [] => 0
  | x :: r => (r.count (x + t) : Int) + pairs t r
theorem pairs_snoc (t : Int) (l : List Int) (y : Int) : pairs t (l ++ [y]) = pairs t l + (l.count (y - t) : Int) := by
  induction l with
  | nil => simp [pairs]
  | cons x r ih =>
    rw [List.cons_append, pairs, pairs, ih, List.count_append]
    simp only [List.count_cons, List.count_nil, beq_iff_eq]
    by_cases e : x + t = y
    · rw [if_pos e.symm, if_pos (show x = y - t by omega)]
      omega
    · rw [if_neg (fun z => e z.symm), if_neg (show ¬ x = y - t by omega)]
      omega
theorem count_map_of {f : Int → Int} (hf : ∀ x y, f x = f y → x = y) (l : List Int) (x : Int) : (l.map f).count (f x) = l.count x := by
  induction l with
  | nil => rfl
  | cons y r ih =>
    rw [List.map_cons, List.count_cons, List.count_cons, ih]
    by_cases e : y = x
    · simp [e]
    · have e2 : ¬ f y = f x := fun z => e (hf _ _ z)
      simp [e, e2]
theorem pairs_neg (t : Int) (l : List Int) : pairs (-t) (l.map (- ·)) = pairs t l := by
  induction l with
  | nil => rfl
  | cons x r ih =>
    rw [List.map_cons, pairs, pairs, ih]
    have e : -x + -t = -(x + t) := by omega
    rw [e, count_map_of (f := (- ·)) (fun a b h => by simp at h; exact h)]
theorem count_rev (l : List Int) (x : Int) : l.reverse.count x = l.count x := by
  induction l with
  | nil => rfl
  | cons y r ih =>
    rw [List.reverse_cons, List.count_append, ih]
    simp only [List.count_cons, List.count_nil]
    omega
theorem pairs_rev (t S : Int) (l : List Int) : pairs t (l.reverse.map (S - ·)) = pairs t l := by
  induction l with
  | nil => rfl
  | cons x r ih =>
    rw [List.reverse_cons, List.map_append, List.map_cons, List.map_nil, pairs_snoc, ih, pairs]
    have e : S - x - t = S - (x + t) := by omega
    rw [e, count_map_of (f := (S - ·)) (fun a b h => by simp at h; omega), count_rev]
    omega
/-- how many stretches have the sum t -/
def cntOf (ns : List Int) (t : Int) : Int := pairs t (psums ns)
theorem cntOf_neg (ns : List Int) (t : Int) : cntOf (ns.map (- ·)) (-t) = cntOf ns t := by
  unfold cntOf
  rw [psums_neg, pairs_neg]
theorem cntOf_rev (ns : List Int) (t : Int) : cntOf ns.reverse t = cntOf ns t := by
  unfold cntOf
  rw [psums_rev, pairs_rev]
/-! ### a dict that counts -/
def CntD (kvs : List (Key × V)) (l : List Int) : Prop := (∀ v : Int, (valV kvs (.inl v)).getD (.int 0) = .int (l.count v)) ∧ kvs.length ≤ l.length
theorem cntD_nil : CntD [] [] := ⟨fun v => by simp [valV_nil], by simp⟩
theorem cntD_put {kvs : List (Key × V)} {l l' : List Int} {y : Int} (h : CntD kvs l) (hl : ∀ v, l'.count v = l.count v + if v = y then 1 else 0) (hn : l'.length = l.length + 1) :
    CntD (putK kvs (.inl y) (.int ((l.count y : Int) + 1))) l' := by
  refine ⟨fun v => ?_, ?_⟩
  · rw [valV_put, hl v]
    by_cases e : v = y
    · subst e
      simp
    · have : ¬ (Sum.inl v : Key) = Sum.inl y := fun z => e (Sum.inl.inj z)
      rw [if_neg this, if_neg e, h.1 v]
      simp
  · have := putK_len' kvs (.inl y) (.int ((l.count y : Int) + 1))
    have := h.2
    omega
/-! ### the law's row -/
def lmost (ns : List Int) : Int := nth [3, 10, 10, 1000000] (ns.sum % 4)
def lrow (ns : List Int) : List Int := ns.map fun c => c % (2 * lmost ns + 1) - lmost ns
theorem lmost_cases (ns : List Int) : lmost ns = 3 ∨ lmost ns = 10 ∨ lmost ns = 1000000 := by
  unfold lmost
  have h1 : 0 ≤ ns.sum % 4 := Int.emod_nonneg _ (by decide)
  have h2 : ns.sum % 4 < 4 := Int.emod_lt_of_pos _ (by decide)
  have : ns.sum % 4 = 0 ∨ ns.sum % 4 = 1 ∨ ns.sum % 4 = 2 ∨ ns.sum % 4 = 3 := by omega
  rcases this with e | e | e | e <;> rw [e]
  · exact .inl rfl
  · exact .inr (.inl rfl)
  · exact .inr (.inl rfl)
  · exact .inr (.inr rfl)
/-- a row that is no refusal -/
def IsRow (ns : List Int) : Prop := ∀ n ∈ ns, -1000000 ≤ n ∧ n ≤ 1000000
theorem lrow_length (ns : List Int) : (lrow ns).length = ns.length := by simp [lrow]
theorem lrow_row (ns : List Int) : IsRow (lrow ns) := by
  intro n hn
  unfold lrow at hn
  obtain ⟨c, _, rfl⟩ := List.mem_map.mp hn
  rcases lmost_cases ns with e | e | e <;> rw [e] <;> omega
theorem IsRow.rev {ns : List Int} (h : IsRow ns) : IsRow ns.reverse := fun n hn => h n (by simpa using hn)
theorem IsRow.neg {ns : List Int} (h : IsRow ns) : IsRow (ns.map (- ·)) := fun n hn => by
  obtain ⟨m, hm, rfl⟩ := List.mem_map.mp hn
  have := h m hm
  omega
theorem nth_mem {ns : List Int} {i : Nat} (h : i < ns.length) : nth ns i ∈ ns := by
  have : nth ns i = ns[i] := by simp [nth, h]
  rw [this]
  exact List.getElem_mem h
end Bs

namespace Bs
open PySem L2
theorem ne_bounds_ins : ¬ (("bounds" : Str) = "ins") := by decide +kernel
theorem bq_bounds_ins : (("bounds" : Str) == "ins") = false := by decide +kernel
theorem ne_bounds_outs : ¬ (("bounds" : Str) = "outs") := by decide +kernel
theorem bq_bounds_outs : (("bounds" : Str) == "outs") = false := by decide +kernel
theorem ne_bounds_price : ¬ (("bounds" : Str) = "price") := by decide +kernel
theorem bq_bounds_price : (("bounds" : Str) == "price") = false := by decide +kernel
theorem ne_bounds_stretches : ¬ (("bounds" : Str) = "stretches") := by decide +kernel
theorem bq_bounds_stretches : (("bounds" : Str) == "stretches") = false := by decide +kernel
theorem ne_first_lows : ¬ (("first" : Str) = "lows") := by decide +kernel
theorem bq_first_lows : (("first" : Str) == "lows") = false := by decide +kernel
theorem ne_first_many : ¬ (("first" : Str) = "many") := by decide +kernel
theorem bq_first_many : (("first" : Str) == "many") = false := by decide +kernel
theorem ne_first_tops : ¬ (("first" : Str) = "tops") := by decide +kernel
theorem bq_first_tops : (("first" : Str) == "tops") = false := by decide +kernel
theorem ne_ins_outs : ¬ (("ins" : Str) = "outs") := by decide +kernel
theorem bq_ins_outs : (("ins" : Str) == "outs") = false := by decide +kernel
theorem ne_ins_price : ¬ (("ins" : Str) = "price") := by decide +kernel
theorem bq_ins_price : (("ins" : Str) == "price") = false := by decide +kernel
theorem ne_ins_stretches : ¬ (("ins" : Str) = "stretches") := by decide +kernel
theorem bq_ins_stretches : (("ins" : Str) == "stretches") = false := by decide +kernel
theorem ne_lows_first : ¬ (("lows" : Str) = "first") := by decide +kernel
theorem bq_lows_first : (("lows" : Str) == "first") = false := by decide +kernel
theorem ne_lows_many : ¬ (("lows" : Str) = "many") := by decide +kernel
theorem bq_lows_many : (("lows" : Str) == "many") = false := by decide +kernel
theorem ne_lows_tops : ¬ (("lows" : Str) = "tops") := by decide +kernel
theorem bq_lows_tops : (("lows" : Str) == "tops") = false := by decide +kernel
theorem ne_many_first : ¬ (("many" : Str) = "first") := by decide +kernel
theorem bq_many_first : (("many" : Str) == "first") = false := by decide +kernel
theorem ne_many_lows : ¬ (("many" : Str) = "lows") := by decide +kernel
theorem bq_many_lows : (("many" : Str) == "lows") = false := by decide +kernel
theorem ne_many_tops : ¬ (("many" : Str) = "tops") := by decide +kernel
theorem bq_many_tops : (("many" : Str) == "tops") = false := by decide +kernel
theorem ne_outs_ins : ¬ (("outs" : Str) = "ins") := by decide +kernel
theorem bq_outs_ins : (("outs" : Str) == "ins") = false := by decide +kernel
theorem ne_outs_price : ¬ (("outs" : Str) = "price") := by decide +kernel
theorem bq_outs_price : (("outs" : Str) == "price") = false := by decide +kernel
theorem ne_outs_stretches : ¬ (("outs" : Str) = "stretches") := by decide +kernel
theorem bq_outs_stretches : (("outs" : Str) == "stretches") = false := by decide +kernel
theorem ne_price_ins : ¬ (("price" : Str) = "ins") := by decide +kernel
theorem bq_price_ins : (("price" : Str) == "ins") = false := by decide +kernel
theorem ne_price_outs : ¬ (("price" : Str) = "outs") := by decide +kernel
theorem bq_price_outs : (("price" : Str) == "outs") = false := by decide +kernel
theorem ne_price_stretches : ¬ (("price" : Str) = "stretches") := by decide +kernel
theorem bq_price_stretches : (("price" : Str) == "stretches") = false := by decide +kernel
theorem ne_shows_first : ¬ (("shows" : Str) = "first") := by decide +kernel
theorem bq_shows_first : (("shows" : Str) == "first") = false := by decide +kernel
theorem ne_shows_ins : ¬ (("shows" : Str) = "ins") := by decide +kernel
theorem bq_shows_ins : (("shows" : Str) == "ins") = false := by decide +kernel
theorem ne_shows_lows : ¬ (("shows" : Str) = "lows") := by decide +kernel
theorem bq_shows_lows : (("shows" : Str) == "lows") = false := by decide +kernel
theorem ne_shows_many : ¬ (("shows" : Str) = "many") := by decide +kernel
theorem bq_shows_many : (("shows" : Str) == "many") = false := by decide +kernel
theorem ne_shows_outs : ¬ (("shows" : Str) = "outs") := by decide +kernel
theorem bq_shows_outs : (("shows" : Str) == "outs") = false := by decide +kernel
theorem ne_shows_price : ¬ (("shows" : Str) = "price") := by decide +kernel
theorem bq_shows_price : (("shows" : Str) == "price") = false := by decide +kernel
theorem ne_shows_stretches : ¬ (("shows" : Str) = "stretches") := by decide +kernel
theorem bq_shows_stretches : (("shows" : Str) == "stretches") = false := by decide +kernel
theorem ne_shows_table : ¬ (("shows" : Str) = "table") := by decide +kernel
theorem bq_shows_table : (("shows" : Str) == "table") = false := by decide +kernel
theorem ne_shows_tops : ¬ (("shows" : Str) = "tops") := by decide +kernel
theorem bq_shows_tops : (("shows" : Str) == "tops") = false := by decide +kernel
theorem ne_stretches_ins : ¬ (("stretches" : Str) = "ins") := by decide +kernel
theorem bq_stretches_ins : (("stretches" : Str) == "ins") = false := by decide +kernel
theorem ne_stretches_outs : ¬ (("stretches" : Str) = "outs") := by decide +kernel
theorem bq_stretches_outs : (("stretches" : Str) == "outs") = false := by decide +kernel
theorem ne_stretches_price : ¬ (("stretches" : Str) = "price") := by decide +kernel
theorem bq_stretches_price : (("stretches" : Str) == "price") = false := by decide +kernel
theorem ne_tops_first : ¬ (("tops" : Str) = "first") := by decide +kernel
theorem bq_tops_first : (("tops" : Str) == "first") = false := by decide +kernel
theorem ne_tops_lows : ¬ (("tops" : Str) = "lows") := by decide +kernel
theorem bq_tops_lows : (("tops" : Str) == "lows") = false := by decide +kernel
theorem ne_tops_many : ¬ (("tops" : Str) = "many") := by decide +kernel
theorem bq_tops_many : (("tops" : Str) == "many") = false := by decide +kernel
def fBest (x0 : Int) (x1 : Int) (x2 : Addr) : List (Str × V) := [("first", V.int x0), ("many", V.int x1), ("lows", V.ref x2)]
theorem fBest_len {x0 : Int} {x1 : Int} {x2 : Addr} : (fBest x0 x1 x2).length < 1000 := by show 3 < 1000; decide
theorem lk_Best_first {x0 : Int} {x1 : Int} {x2 : Addr} : (fBest x0 x1 x2).lookup ("first" : Str) = some (.int x0) := by simp only [fBest, List.lookup_cons, beq_self_eq_true]
theorem pt_Best_first {x0 : Int} : putF "first" (.int x0) ([] : List (Str × V)) = ([("first", V.int x0)] : List (Str × V)) := by simp only [putF]
theorem lk_Best_many {x0 : Int} {x1 : Int} {x2 : Addr} : (fBest x0 x1 x2).lookup ("many" : Str) = some (.int x1) := by simp only [fBest, List.lookup_cons, bq_many_first, beq_self_eq_true]
theorem pt_Best_many {x0 : Int} {x1 : Int} : putF "many" (.int x1) ([("first", V.int x0)] : List (Str × V)) = ([("first", V.int x0), ("many", V.int x1)] : List (Str × V)) := by simp only [putF, if_neg ne_first_many]
theorem lk_Best_lows {x0 : Int} {x1 : Int} {x2 : Addr} : (fBest x0 x1 x2).lookup ("lows" : Str) = some (.ref x2) := by simp only [fBest, List.lookup_cons, bq_lows_first, bq_lows_many, beq_self_eq_true]
theorem pt_Best_lows {x0 : Int} {x1 : Int} {x2 : Addr} : putF "lows" (.ref x2) ([("first", V.int x0), ("many", V.int x1)] : List (Str × V)) = ([("first", V.int x0), ("many", V.int x1), ("lows", V.ref x2)] : List (Str × V)) := by simp only [putF, if_neg ne_first_lows, if_neg ne_many_lows]
theorem no_Best_shows {x0 : Int} {x1 : Int} {x2 : Addr} : (fBest x0 x1 x2).lookup ("shows" : Str) = none := by simp only [fBest, List.lookup_cons, List.lookup_nil, bq_shows_first, bq_shows_many, bq_shows_lows]
structure OkBest (K : PySem.W.Frag) (C : Addr) : Prop where
  cl : Cls K C
  first : NoAttr K C "first"
  many : NoAttr K C "many"
  lows : NoAttr K C "lows"
def fSteep (x0 : Int) (x1 : Int) (x2 : Addr) : List (Str × V) := [("first", V.int x0), ("many", V.int x1), ("lows", V.ref x2)]
theorem fSteep_len {x0 : Int} {x1 : Int} {x2 : Addr} : (fSteep x0 x1 x2).length < 1000 := by show 3 < 1000; decide
theorem lk_Steep_first {x0 : Int} {x1 : Int} {x2 : Addr} : (fSteep x0 x1 x2).lookup ("first" : Str) = some (.int x0) := by simp only [fSteep, List.lookup_cons, beq_self_eq_true]
theorem pt_Steep_first {x0 : Int} : putF "first" (.int x0) ([] : List (Str × V)) = ([("first", V.int x0)] : List (Str × V)) := by simp only [putF]
theorem lk_Steep_many {x0 : Int} {x1 : Int} {x2 : Addr} : (fSteep x0 x1 x2).lookup ("many" : Str) = some (.int x1) := by simp only [fSteep, List.lookup_cons, bq_many_first, beq_self_eq_true]
theorem pt_Steep_many {x0 : Int} {x1 : Int} : putF "many" (.int x1) ([("first", V.int x0)] : List (Str × V)) = ([("first", V.int x0), ("many", V.int x1)] : List (Str × V)) := by simp only [putF, if_neg ne_first_many]
theorem lk_Steep_lows {x0 : Int} {x1 : Int} {x2 : Addr} : (fSteep x0 x1 x2).lookup ("lows" : Str) = some (.ref x2) := by simp only [fSteep, List.lookup_cons, bq_lows_first, bq_lows_many, beq_self_eq_true]
theorem pt_Steep_lows {x0 : Int} {x1 : Int} {x2 : Addr} : putF "lows" (.ref x2) ([("first", V.int x0), ("many", V.int x1)] : List (Str × V)) = ([("first", V.int x0), ("many", V.int x1), ("lows", V.ref x2)] : List (Str × V)) := by simp only [putF, if_neg ne_first_lows, if_neg ne_many_lows]
theorem no_Steep_shows {x0 : Int} {x1 : Int} {x2 : Addr} : (fSteep x0 x1 x2).lookup ("shows" : Str) = none := by simp only [fSteep, List.lookup_cons, List.lookup_nil, bq_shows_first, bq_shows_many, bq_shows_lows]
structure OkSteep (K : PySem.W.Frag) (C : Addr) : Prop where
  cl : Cls K C
  first : NoAttr K C "first"
  many : NoAttr K C "many"
  lows : NoAttr K C "lows"
def fAround (x0 : Int) (x1 : Int) (x2 : Addr) (x3 : Addr) : List (Str × V) := [("first", V.int x0), ("many", V.int x1), ("lows", V.ref x2), ("tops", V.ref x3)]
theorem fAround_len {x0 : Int} {x1 : Int} {x2 : Addr} {x3 : Addr} : (fAround x0 x1 x2 x3).length < 1000 := by show 4 < 1000; decide
theorem lk_Around_first {x0 : Int} {x1 : Int} {x2 : Addr} {x3 : Addr} : (fAround x0 x1 x2 x3).lookup ("first" : Str) = some (.int x0) := by simp only [fAround, List.lookup_cons, beq_self_eq_true]
theorem pt_Around_first {x0 : Int} : putF "first" (.int x0) ([] : List (Str × V)) = ([("first", V.int x0)] : List (Str × V)) := by simp only [putF]
theorem lk_Around_many {x0 : Int} {x1 : Int} {x2 : Addr} {x3 : Addr} : (fAround x0 x1 x2 x3).lookup ("many" : Str) = some (.int x1) := by simp only [fAround, List.lookup_cons, bq_many_first, beq_self_eq_true]
theorem pt_Around_many {x0 : Int} {x1 : Int} : putF "many" (.int x1) ([("first", V.int x0)] : List (Str × V)) = ([("first", V.int x0), ("many", V.int x1)] : List (Str × V)) := by simp only [putF, if_neg ne_first_many]
theorem lk_Around_lows {x0 : Int} {x1 : Int} {x2 : Addr} {x3 : Addr} : (fAround x0 x1 x2 x3).lookup ("lows" : Str) = some (.ref x2) := by simp only [fAround, List.lookup_cons, bq_lows_first, bq_lows_many, beq_self_eq_true]
theorem pt_Around_lows {x0 : Int} {x1 : Int} {x2 : Addr} : putF "lows" (.ref x2) ([("first", V.int x0), ("many", V.int x1)] : List (Str × V)) = ([("first", V.int x0), ("many", V.int x1), ("lows", V.ref x2)] : List (Str × V)) := by simp only [putF, if_neg ne_first_lows, if_neg ne_many_lows]
theorem lk_Around_tops {x0 : Int} {x1 : Int} {x2 : Addr} {x3 : Addr} : (fAround x0 x1 x2 x3).lookup ("tops" : Str) = some (.ref x3) := by simp only [fAround, List.lookup_cons, bq_tops_first, bq_tops_many, bq_tops_lows, beq_self_eq_true]
theorem pt_Around_tops {x0 : Int} {x1 : Int} {x2 : Addr} {x3 : Addr} : putF "tops" (.ref x3) ([("first", V.int x0), ("many", V.int x1), ("lows", V.ref x2)] : List (Str × V)) = ([("first", V.int x0), ("many", V.int x1), ("lows", V.ref x2), ("tops", V.ref x3)] : List (Str × V)) := by simp only [putF, if_neg ne_first_tops, if_neg ne_many_tops, if_neg ne_lows_tops]
theorem no_Around_shows {x0 : Int} {x1 : Int} {x2 : Addr} {x3 : Addr} : (fAround x0 x1 x2 x3).lookup ("shows" : Str) = none := by simp only [fAround, List.lookup_cons, List.lookup_nil, bq_shows_first, bq_shows_many, bq_shows_lows, bq_shows_tops]
structure OkAround (K : PySem.W.Frag) (C : Addr) : Prop where
  cl : Cls K C
  first : NoAttr K C "first"
  many : NoAttr K C "many"
  lows : NoAttr K C "lows"
  tops : NoAttr K C "tops"
def fExact (x0 : Int) (x1 : Int) : List (Str × V) := [("first", V.int x0), ("many", V.int x1)]
theorem fExact_len {x0 : Int} {x1 : Int} : (fExact x0 x1).length < 1000 := by show 2 < 1000; decide
theorem lk_Exact_first {x0 : Int} {x1 : Int} : (fExact x0 x1).lookup ("first" : Str) = some (.int x0) := by simp only [fExact, List.lookup_cons, beq_self_eq_true]
theorem pt_Exact_first {x0 : Int} : putF "first" (.int x0) ([] : List (Str × V)) = ([("first", V.int x0)] : List (Str × V)) := by simp only [putF]
theorem lk_Exact_many {x0 : Int} {x1 : Int} : (fExact x0 x1).lookup ("many" : Str) = some (.int x1) := by simp only [fExact, List.lookup_cons, bq_many_first, beq_self_eq_true]
theorem pt_Exact_many {x0 : Int} {x1 : Int} : putF "many" (.int x1) ([("first", V.int x0)] : List (Str × V)) = ([("first", V.int x0), ("many", V.int x1)] : List (Str × V)) := by simp only [putF, if_neg ne_first_many]
theorem no_Exact_shows {x0 : Int} {x1 : Int} : (fExact x0 x1).lookup ("shows" : Str) = none := by simp only [fExact, List.lookup_cons, List.lookup_nil, bq_shows_first, bq_shows_many]
structure OkExact (K : PySem.W.Frag) (C : Addr) : Prop where
  cl : Cls K C
  first : NoAttr K C "first"
  many : NoAttr K C "many"
def fNever (x0 : Addr) : List (Str × V) := [("table", V.ref x0)]
theorem fNever_len {x0 : Addr} : (fNever x0).length < 1000 := by show 1 < 1000; decide
theorem lk_Never_table {x0 : Addr} : (fNever x0).lookup ("table" : Str) = some (.ref x0) := by simp only [fNever, List.lookup_cons, beq_self_eq_true]
theorem pt_Never_table {x0 : Addr} : putF "table" (.ref x0) ([] : List (Str × V)) = ([("table", V.ref x0)] : List (Str × V)) := by simp only [putF]
theorem no_Never_shows {x0 : Addr} : (fNever x0).lookup ("shows" : Str) = none := by simp only [fNever, List.lookup_cons, List.lookup_nil, bq_shows_table]
structure OkNever (K : PySem.W.Frag) (C : Addr) : Prop where
  cl : Cls K C
  table : NoAttr K C "table"
def fSeveral (x0 : Addr) (x1 : Int) (x2 : Addr) (x3 : Addr) : List (Str × V) := [("stretches", V.ref x0), ("price", V.int x1), ("outs", V.ref x2), ("ins", V.ref x3)]
theorem fSeveral_len {x0 : Addr} {x1 : Int} {x2 : Addr} {x3 : Addr} : (fSeveral x0 x1 x2 x3).length < 1000 := by show 4 < 1000; decide
theorem lk_Several_stretches {x0 : Addr} {x1 : Int} {x2 : Addr} {x3 : Addr} : (fSeveral x0 x1 x2 x3).lookup ("stretches" : Str) = some (.ref x0) := by simp only [fSeveral, List.lookup_cons, beq_self_eq_true]
theorem pt_Several_stretches {x0 : Addr} : putF "stretches" (.ref x0) ([] : List (Str × V)) = ([("stretches", V.ref x0)] : List (Str × V)) := by simp only [putF]
theorem lk_Several_price {x0 : Addr} {x1 : Int} {x2 : Addr} {x3 : Addr} : (fSeveral x0 x1 x2 x3).lookup ("price" : Str) = some (.int x1) := by simp only [fSeveral, List.lookup_cons, bq_price_stretches, beq_self_eq_true]
theorem pt_Several_price {x0 : Addr} {x1 : Int} : putF "price" (.int x1) ([("stretches", V.ref x0)] : List (Str × V)) = ([("stretches", V.ref x0), ("price", V.int x1)] : List (Str × V)) := by simp only [putF, if_neg ne_stretches_price]
theorem lk_Several_outs {x0 : Addr} {x1 : Int} {x2 : Addr} {x3 : Addr} : (fSeveral x0 x1 x2 x3).lookup ("outs" : Str) = some (.ref x2) := by simp only [fSeveral, List.lookup_cons, bq_outs_stretches, bq_outs_price, beq_self_eq_true]
theorem pt_Several_outs {x0 : Addr} {x1 : Int} {x2 : Addr} : putF "outs" (.ref x2) ([("stretches", V.ref x0), ("price", V.int x1)] : List (Str × V)) = ([("stretches", V.ref x0), ("price", V.int x1), ("outs", V.ref x2)] : List (Str × V)) := by simp only [putF, if_neg ne_stretches_outs, if_neg ne_price_outs]
theorem lk_Several_ins {x0 : Addr} {x1 : Int} {x2 : Addr} {x3 : Addr} : (fSeveral x0 x1 x2 x3).lookup ("ins" : Str) = some (.ref x3) := by simp only [fSeveral, List.lookup_cons, bq_ins_stretches, bq_ins_price, bq_ins_outs, beq_self_eq_true]
theorem pt_Several_ins {x0 : Addr} {x1 : Int} {x2 : Addr} {x3 : Addr} : putF "ins" (.ref x3) ([("stretches", V.ref x0), ("price", V.int x1), ("outs", V.ref x2)] : List (Str × V)) = ([("stretches", V.ref x0), ("price", V.int x1), ("outs", V.ref x2), ("ins", V.ref x3)] : List (Str × V)) := by simp only [putF, if_neg ne_stretches_ins, if_neg ne_price_ins, if_neg ne_outs_ins]
theorem no_Several_shows {x0 : Addr} {x1 : Int} {x2 : Addr} {x3 : Addr} : (fSeveral x0 x1 x2 x3).lookup ("shows" : Str) = none := by simp only [fSeveral, List.lookup_cons, List.lookup_nil, bq_shows_stretches, bq_shows_price, bq_shows_outs, bq_shows_ins]
theorem no_Several_bounds {x0 : Addr} {x1 : Int} {x2 : Addr} {x3 : Addr} : (fSeveral x0 x1 x2 x3).lookup ("bounds" : Str) = none := by simp only [fSeveral, List.lookup_cons, List.lookup_nil, bq_bounds_stretches, bq_bounds_price, bq_bounds_outs, bq_bounds_ins]
structure OkSeveral (K : PySem.W.Frag) (C : Addr) : Prop where
  cl : Cls K C
  stretches : NoAttr K C "stretches"
  price : NoAttr K C "price"
  outs : NoAttr K C "outs"
  ins : NoAttr K C "ins"
theorem kitOne_of {K : PySem.W.Frag} {C D : Addr} {b : Bool} (h1 : PySem.W.isClsIn K D = true) (h2 : PySem.W.typeIn K (.ref D) = some (.type "type")) (h3 : PySem.W.subIn K (.ref C) (.ref D) = some b) (h4 : PySem.W.subIn K (.ref C) (.ref C) = some true) :
    PySem.W.kitOne K (.ref C) (.ref D) = some b := by
  have e2 : ((PySem.W.clsIn K D).isSome && PySem.W.typeIn K (.ref D) == some (.type "type")) = true := by
    have h1' : (PySem.W.clsIn K D).isSome = true := h1
    rw [h1', h2] <;> rfl
  unfold PySem.W.kitOne
  by_cases e : (Value.ref C == Value.ref D) = true
  · rw [if_pos e]
    have : C = D := by
      have := eq_of_beq e
      injection this
    subst this
    rw [h4] at h3
    exact h3
  · rw [if_neg e]
    show (if ((PySem.W.clsIn K D).isSome && PySem.W.typeIn K (.ref D) == some (.type "type")) = true then PySem.W.subIn K (.ref C) (.ref D) else none) = some b
    rw [if_pos e2]
    exact h3
/-- what isinstance asks of an own class -/
structure IsiC (K : PySem.W.Frag) (C : Addr) : Prop where
  cl : Cls K C
  ha : PySem.W.findIn K (.ref C) "__class__" = some (some (.builtin "object.__class__"))
  hn : PySem.W.specialIn K (.builtin "object.__class__") "__get__" = some (some (.builtin "getset_descriptor.__get__"))
  tk : PySem.W.takesIn K (.builtin "object.__class__") = some true
  hm : PySem.W.mroIn K C (.type "object") = some true
section
variable {K : PySem.W.Frag} {σ σ' : L2.St} {H H' : Hp} {Q : VK} {ta tv : TE} {D : Ends} {v x y : V} {a C C' dx : Addr} {fs fs' : List (Str × V)} {f m : Str} {b : Bool} {vs : List V}
theorem isi_own (I : IsiC K C) (h : H a = some (.ins C dx fs)) (k : PySem.W.kitOne K (.ref C) (.ref C') = some b) (q : Q (.bl b) H) : rIsi K [.ref a, .ref C'] H Q :=
  ⟨_, _, _, _, b, rfl, .own C', .base (.ins h I.cl I.ha I.hn I.tk I.hm), k, q⟩
theorem wp_fld (q : ta σ H (kFld K f Q)) : tFld K ta f σ H Q := q
theorem wp_kFld (h : H a = some (.ins C dx fs)) (c : Cls K C) (n : NoAttr K C f) (l : fs.lookup f = some v) (q : Q v H) : kFld K f Q (.ref a) H := ⟨a, C, dx, fs, v, rfl, h, c, n, l, q⟩
def kPutF (K : PySem.W.Frag) (f : Str) (y : V) (D : Ends) (σ : L2.St) : VK := fun x H2 => ∃ a C dx fs, x = .ref a ∧ H2 a = some (.ins C dx fs) ∧ Cls K C ∧ NoAttr K C f ∧ fs.length < 1000 ∧ D.nx σ (upd H2 a (.ins C dx (putF f y fs)))
theorem wp_sfld (q : tv σ H fun y H1 => ta σ H1 fun x H2 => kPutF K f y D σ x H2) : sFld K ta tv f D σ H := q
theorem wp_kPutF (h : H a = some (.ins C dx fs)) (c : Cls K C) (n : NoAttr K C f) (l : fs.length < 1000) (e : putF f y fs = fs') (q : D.nx σ (upd H a (.ins C dx fs'))) : kPutF K f y D σ (.ref a) H :=
  ⟨a, C, dx, fs, rfl, h, c, n, l, by rw [e]; exact q⟩
def kCallM (x : V) (sp : Sp) (dvs : List V) (E : XK) (Q : VK) : List V → Hp → Prop := fun vs H => sp (x :: (vs ++ dvs)) H Q E
theorem wp_meth {sp : Sp} {dvs : List V} {E : XK} {t : TA} (q : ta σ H (kMeth C m sp dvs E t σ Q)) : tMeth C m sp dvs E ta t σ H Q := q
theorem wp_kMeth {sp : Sp} {dvs : List V} {E : XK} {t : TA} (h : H a = some (.ins C dx fs)) (n : fs.lookup m = none) (q : t σ H (kCallM (.ref a) sp dvs E Q)) : kMeth C m sp dvs E t σ Q (.ref a) H := ⟨a, dx, fs, rfl, h, n, q⟩
theorem wp_kCallM {sp : Sp} {E : XK} (q : sp (x :: vs) H Q E) : kCallM x sp [] E Q vs H := by
  show sp (x :: (vs ++ [])) H Q E
  rw [List.append_nil]
  exact q
theorem wp_make {sp : Sp} {dvs : List V} {E : XK} {t : TA} (q : t σ H (kMake C sp dvs E Q)) : tMake C sp dvs E t σ H Q := q
theorem wp_kMake {sp : Sp} {E : XK} (q : ∀ x dx, H x = none → H dx = none → dx ≠ x → sp (.ref x :: vs) (upd (upd H dx (.own x)) x (.ins C dx [])) (fun v H2 => v = .non ∧ Q (.ref x) H2) E) : kMake C sp [] E Q vs H := by
  intro x dx h1 h2 h3
  rw [List.append_nil]
  exact q x dx h1 h2 h3
/-- behind a making -/
theorem same_make {H0 : Hp} {p : Addr} (np : H p = none) (nd : H dx = none) (k : ∀ b o, (upd (upd H dx (.own p)) p (.ins C dx [])) b = some o → b ≠ p → H0 b = some o) : Same H H0 := fun b o e =>
  k b o (by rw [upd_ne (ne_of_none e np), upd_ne (ne_of_none e nd)]; exact e) (ne_of_none e np)
end
end Bs

namespace Bs
open PySem L2
/-! ### stretches and lows: the mathematics -/
def IsThere (f m l : Int) : Prop := 0 ≤ f ∧ 1 ≤ m ∧ f + m ≤ l
instance (f m l : Int) : Decidable (IsThere f m l) := by unfold IsThere; infer_instance
/-- lows against sums -/
def Below (sums : List Int) (least : Int) (lows : List Int) (told : Int) : Prop :=
  (lows.length : Int) = sums.length - least ∧ ∀ i : Nat, i < lows.length → nth lows i ≤ nth sums i ∧ (0 < i → nth lows i ≤ nth lows ((i : Int) - 1)) ∧ nth sums ((i : Int) + least) - nth lows i ≤ told
instance (sums : List Int) (least : Int) (lows : List Int) (told : Int) : Decidable (Below sums least lows told) := by unfold Below; infer_instance
/-- the sum of a stretch, as the slice has it -/
def segS (ns : List Int) (f m : Int) : Int := (cut ns (some f) (some (f + m))).sum
theorem cut_some (ns : List Int) {f e : Int} (h0 : 0 ≤ f) (h1 : f ≤ e) (h2 : e ≤ ns.length) : cut ns (some f) (some e) = (ns.drop f.toNat).take (e - f).toNat := by
  unfold cut
  have e1 : HT.sIx ns.length 0 (some f) = f.toNat := by
    show (if f < 0 then (f + (ns.length : Int)).toNat else min f.toNat ns.length) = f.toNat
    rw [if_neg (by omega)]
    omega
  have e2 : HT.sIx ns.length ns.length (some e) = e.toNat := by
    show (if e < 0 then (e + (ns.length : Int)).toNat else min e.toNat ns.length) = e.toNat
    rw [if_neg (by omega)]
    omega
  rw [e1, e2, show e.toNat - f.toNat = (e - f).toNat by omega]
theorem pre_split (ns : List Int) (f m : Nat) : pre ns (f + m) = pre ns f + ((ns.drop f).take m).sum := by
  unfold pre
  rw [List.take_add, List.sum_append]
theorem segS_pre (ns : List Int) {f m : Int} (h0 : 0 ≤ f) (h1 : 0 ≤ m) (h2 : f + m ≤ ns.length) : segS ns f m = nth (psums ns) (f + m) - nth (psums ns) f := by
  unfold segS
  rw [cut_some ns h0 (by omega) h2]
  have e := pre_split ns f.toNat m.toNat
  have ef : nth (psums ns) f = pre ns f.toNat := by
    have := nth_psums ns (j := f.toNat) (by omega)
    rw [← this, Int.toNat_of_nonneg h0]
  have eg : nth (psums ns) (f + m) = pre ns (f.toNat + m.toNat) := by
    have := nth_psums ns (j := f.toNat + m.toNat) (by omega)
    rw [← this]
    congr 1
    omega
  rw [ef, eg, e, show (f + m - f).toNat = m.toNat by omega]
  omega
theorem sum_pre (ns : List Int) : ns.sum = pre ns ns.length := by simp [pre]
/-- what best_of tells -/
structure BestOf (ns : List Int) (least f m : Int) (lows : List Int) : Prop where
  f0 : 0 ≤ f
  m0 : least ≤ m
  fm : f + m ≤ ns.length
  lo : Below (psums ns) least lows (segS ns f m)
/-- lows bound every stretch -/
theorem Below.bound {P lows : List Int} {least told : Int} (h : Below P least lows told) (hl : 0 ≤ least) {a e : Int} (h0 : 0 ≤ a) (h1 : a + least ≤ e) (h2 : e < P.length) : nth P e - nth P a ≤ told := by
  obtain ⟨hn, h⟩ := h
  have key : ∀ (d : Nat) (j : Nat), (j : Int) + least < P.length → (j : Int) = a + d → nth lows j ≤ nth P a := by
    intro d
    induction d with
    | zero =>
      intro j hj e
      have e' : (j : Int) = a := by omega
      have := (h j (by omega)).1
      rw [e'] at this
      rw [e']
      exact this
    | succ d ih =>
      intro j hj e
      have h1 := (h j (by omega)).2.1 (by omega)
      have e2 : ((j - 1 : Nat) : Int) = (j : Int) - 1 := by omega
      have h2 := ih (j - 1) (by omega) (by omega)
      rw [e2] at h2
      omega
  have hj : (((e - least).toNat : Nat) : Int) = e - least := by omega
  have q := key (e - least - a).toNat (e - least).toNat (by omega) (by omega)
  have r := (h (e - least).toNat (by omega)).2.2
  rw [hj] at q r
  rw [show e - least + least = e by omega] at r
  omega
theorem nth_append_left {xs ys : List Int} {i : Int} (h0 : 0 ≤ i) (h : i < xs.length) : nth (xs ++ ys) i = nth xs i := by
  unfold nth
  rw [List.getD_eq_getElem?_getD, List.getD_eq_getElem?_getD, List.getElem?_append_left (by omega)]
theorem nth_append_last {xs : List Int} {y : Int} : nth (xs ++ [y]) (xs.length : Int) = y := by
  simp [nth]
/-- one turn of best_of: i turns are done -/
structure BestTo (P : List Int) (least : Int) (i : Nat) (lows : List Int) (low f m : Int) : Prop where
  ln : lows.length = i
  l0 : 0 ≤ low
  li : low ≤ i ∧ (low < i ∨ (i = 0 ∧ low = 0))
  mn : ∀ k : Nat, k < i → nth P low ≤ nth P k
  la : 0 < i → nth lows ((i : Int) - 1) = nth P low
  f0 : 0 ≤ f
  m0 : least ≤ m
  fm : f + m < P.length
  lo : ∀ j : Nat, j < i → nth lows j ≤ nth P j ∧ (0 < j → nth lows j ≤ nth lows ((j : Int) - 1)) ∧ nth P ((j : Int) + least) - nth lows j ≤ nth P (f + m) - nth P f
theorem bestTo_zero {P : List Int} {least : Int} (h1 : 0 ≤ least) (h2 : least < P.length) : BestTo P least 0 [] 0 0 least :=
  ⟨rfl, Int.le_refl _, by omega, fun k hk => by omega, fun h => by omega, Int.le_refl _, Int.le_refl _, by omega, fun j hj => by omega⟩
theorem bestTo_step {P : List Int} {least : Int} {i : Nat} {lows : List Int} {low f m low' f' m' : Int} (h : BestTo P least i lows low f m) (hl : 0 ≤ least) (hi : (i : Int) + least < P.length)
    (e1 : low' = if nth P i < nth P low then (i : Int) else low)
    (e2 : f' = if nth P ((i : Int) + least) - nth P low' > nth P (f + m) - nth P f then low' else f)
    (e3 : m' = if nth P ((i : Int) + least) - nth P low' > nth P (f + m) - nth P f then (i : Int) + least - low' else m) :
    BestTo P least (i + 1) (lows ++ [nth P low']) low' f' m' := by
  obtain ⟨ln, l0, li, mn, la, f0, m0, fm, lo⟩ := h
  have hlow : 0 ≤ low' ∧ low' ≤ i ∧ nth P low' ≤ nth P i ∧ nth P low' ≤ nth P low := by
    rw [e1]
    split
    · exact ⟨by omega, by omega, Int.le_refl _, by omega⟩
    · rename_i hh
      refine ⟨l0, li.1, by omega, Int.le_refl _⟩
  obtain ⟨a1, a2, a3, a4⟩ := hlow
  have hbest : nth P (f + m) - nth P f ≤ nth P (f' + m') - nth P f' ∧ nth P ((i : Int) + least) - nth P low' ≤ nth P (f' + m') - nth P f' ∧ 0 ≤ f' ∧ least ≤ m' ∧ f' + m' < P.length := by
    rw [e2, e3]
    by_cases c : nth P ((i : Int) + least) - nth P low' > nth P (f + m) - nth P f
    · rw [if_pos c, if_pos c, show low' + ((i : Int) + least - low') = (i : Int) + least by omega]
      refine ⟨by omega, by omega, a1, by omega, hi⟩
    · rw [if_neg c, if_neg c]
      exact ⟨Int.le_refl _, by omega, f0, m0, fm⟩
  obtain ⟨b1, b2, b3, b4, b5⟩ := hbest
  have hlast : nth (lows ++ [nth P low']) (i : Int) = nth P low' := by
    rw [← ln]
    exact nth_append_last
  refine ⟨by simp [ln], a1, ⟨by omega, .inl (by omega)⟩, fun k hk => ?_, fun _ => ?_, b3, b4, b5, fun j hj => ?_⟩
  · by_cases e : k = i
    · subst e; exact a3
    · have := mn k (by omega)
      omega
  · rw [show ((i + 1 : Nat) : Int) - 1 = (i : Int) by omega]
    exact hlast
  · by_cases e : j = i
    · subst e
      rw [hlast]
      refine ⟨a3, fun h0 => ?_, b2⟩
      rw [nth_append_left (by omega) (by omega), la h0]
      exact a4
    · have hj' : j < i := by omega
      obtain ⟨c1, c2, c3⟩ := lo j hj'
      rw [nth_append_left (by omega) (by omega)]
      refine ⟨c1, fun h0 => ?_, by omega⟩
      rw [nth_append_left (by omega) (by omega)]
      exact c2 h0
theorem bestTo_end {ns lows : List Int} {least low f m : Int} {i : Nat} (h : BestTo (psums ns) least i lows low f m) (hl : 0 ≤ least) (hi : (i : Int) = ns.length - least + 1) : BestOf ns least f m lows := by
  obtain ⟨ln, l0, li, mn, la, f0, m0, fm, lo⟩ := h
  have hz := psums_length ns
  refine ⟨f0, m0, by omega, by omega, fun j hj => ?_⟩
  rw [segS_pre ns f0 (by omega) (by omega)]
  exact lo j (by omega)
/-- what an answer with lows shows -/
def BestShow (ns : List Int) (least f m : Int) (lows : List Int) : Prop := IsThere f m ns.length ∧ least ≤ m ∧ Below (psums ns) least lows (segS ns f m)
instance (ns : List Int) (least f m : Int) (lows : List Int) : Decidable (BestShow ns least f m lows) := by unfold BestShow; infer_instance
theorem BestOf.shows {ns lows : List Int} {least f m : Int} (h : BestOf ns least f m lows) (hl : 1 ≤ least) : BestShow ns least f m lows := ⟨⟨h.f0, by have := h.m0; omega, h.fm⟩, h.m0, h.lo⟩
theorem not_below_snoc {P lows : List Int} {least told : Int} {y : Int} (h : Below P least lows told) (t2 : Int) : ¬ Below P least (lows ++ [y]) t2 := by
  intro q
  have h1 := h.1
  have h2 := q.1
  rw [List.length_append, List.length_singleton] at h2
  omega
end Bs

namespace Bs
open PySem L2
/-! ### rings -/
theorem nth_eq {ns : List Int} {i : Nat} (h : i < ns.length) : nth ns i = ns[i] := by simp [nth, h]
theorem pre_append_left (xs ys : List Int) {i : Nat} (h : i ≤ xs.length) : pre (xs ++ ys) i = pre xs i := by
  unfold pre
  rw [List.take_append_of_le_length h]
theorem pre_append_right (xs ys : List Int) (i : Nat) : pre (xs ++ ys) (xs.length + i) = xs.sum + pre ys i := by
  unfold pre
  rw [List.take_length_add_append, List.sum_append]
/-- the sum of a stretch, the row twice -/
def tellR (ns : List Int) (f m : Int) : Int := segS (ns ++ ns) f m
theorem nth_psums2 (ns : List Int) {i : Int} (h0 : 0 ≤ i) (h1 : i ≤ ns.length) : nth (psums (ns ++ ns)) i = nth (psums ns) i := by
  have e1 := nth_psums (ns ++ ns) (j := i.toNat) (by rw [List.length_append]; omega)
  have e2 := nth_psums ns (j := i.toNat) (by omega)
  rw [Int.toNat_of_nonneg h0] at e1 e2
  rw [e1, e2, pre_append_left _ _ (by omega)]
theorem nth_psums3 (ns : List Int) {i : Int} (h0 : 0 ≤ i) (h1 : i ≤ ns.length) : nth (psums (ns ++ ns)) ((ns.length : Int) + i) = ns.sum + nth (psums ns) i := by
  have e1 := nth_psums (ns ++ ns) (j := ns.length + i.toNat) (by rw [List.length_append]; omega)
  have e2 := nth_psums ns (j := i.toNat) (by omega)
  rw [Int.toNat_of_nonneg h0] at e2
  rw [show ((ns.length + i.toNat : Nat) : Int) = (ns.length : Int) + i by omega] at e1
  rw [e1, e2, pre_append_right]
theorem nth_psums_len (ns : List Int) : nth (psums ns) ns.length = ns.sum := by
  rw [nth_psums ns (Nat.le_refl _), sum_pre]
theorem nth_psums_0 (ns : List Int) : nth (psums ns) 0 = 0 := by
  have := nth_psums ns (j := 0) (by omega)
  rw [pre_zero] at this
  exact this
theorem tellR_flat (ns : List Int) {f m : Int} (h0 : 0 ≤ f) (h1 : 0 ≤ m) (h2 : f + m ≤ ns.length) : tellR ns f m = segS ns f m := by
  unfold tellR
  rw [segS_pre _ h0 h1 (by rw [List.length_append]; omega), segS_pre _ h0 h1 h2, nth_psums2 ns (by omega) h2, nth_psums2 ns h0 (by omega)]
theorem tellR_wrap (ns : List Int) {f m : Int} (h0 : 0 ≤ f) (h1 : f ≤ ns.length) (h2 : (ns.length : Int) ≤ f + m) (h3 : m ≤ ns.length) : tellR ns f m = ns.sum + nth (psums ns) (f + m - ns.length) - nth (psums ns) f := by
  unfold tellR
  rw [segS_pre _ h0 (by omega) (by rw [List.length_append]; omega), nth_psums2 ns h0 h1]
  have e := nth_psums3 ns (i := f + m - ns.length) (by omega) (by omega)
  rw [show (ns.length : Int) + (f + m - ns.length) = f + m by omega] at e
  rw [e]
/-- the row within, each with its sign turned -/
def within (ns : List Int) : List Int := (cut ns (some 1) (some (-1))).map fun x => -x
theorem cut_within {ns : List Int} (h : 1 ≤ ns.length) : cut ns (some 1) (some (-1)) = (ns.drop 1).take (ns.length - 2) := by
  unfold cut
  have e1 : HT.sIx ns.length 0 (some 1) = 1 := by
    show (if (1 : Int) < 0 then ((1 : Int) + (ns.length : Int)).toNat else min (1 : Int).toNat ns.length) = 1
    rw [if_neg (by omega)]
    show min 1 ns.length = 1
    omega
  have e2 : HT.sIx ns.length ns.length (some (-1)) = ns.length - 1 := by
    show (if (-1 : Int) < 0 then ((-1 : Int) + (ns.length : Int)).toNat else min (-1 : Int).toNat ns.length) = ns.length - 1
    rw [if_pos (by omega)]
    omega
  rw [e1, e2]
  congr 1
theorem cut_within_len (ns : List Int) : (cut ns (some 1) (some (-1))).length ≤ ns.length := by
  unfold cut
  rw [List.length_take, List.length_drop]
  omega
theorem within_length {ns : List Int} (h : 1 ≤ ns.length) : (within ns).length = ns.length - 2 := by
  unfold within
  rw [List.length_map, cut_within h, List.length_take, List.length_drop]
  omega
theorem within_le (ns : List Int) : (within ns).length ≤ ns.length := by
  unfold within
  rw [List.length_map]
  exact cut_within_len ns
theorem pre_within {ns : List Int} (h : 1 ≤ ns.length) : ∀ i : Nat, i + 2 ≤ ns.length → pre (within ns) i = pre ns 1 - pre ns (i + 1) := by
  intro i
  induction i with
  | zero => intro _; simp [pre_zero]
  | succ i ih =>
    intro hi
    rw [pre_succ (by rw [within_length h]; omega), ih (by omega), pre_succ (i := i + 1) (by omega)]
    have e : nth (within ns) i = - nth ns ((i + 1 : Nat) : Int) := by
      rw [nth_eq (by rw [within_length h]; omega), nth_eq (by omega)]
      simp only [within, cut_within h, List.getElem_map, List.getElem_take, List.getElem_drop, Nat.add_comm 1 i]
    omega
theorem nth_psums_within {ns : List Int} {i : Int} (h0 : 0 ≤ i) (h1 : i + 2 ≤ ns.length) : nth (psums (within ns)) i = nth (psums ns) 1 - nth (psums ns) (i + 1) := by
  have h : 1 ≤ ns.length := by omega
  have e1 := nth_psums (within ns) (j := i.toNat) (by rw [within_length h]; omega)
  have e2 := nth_psums ns (j := i.toNat + 1) (by omega)
  have e3 := nth_psums ns (j := 1) (by omega)
  rw [Int.toNat_of_nonneg h0] at e1
  rw [show ((i.toNat + 1 : Nat) : Int) = i + 1 by omega] at e2
  rw [show ((1 : Nat) : Int) = 1 by omega] at e3
  rw [e1, e2, e3, pre_within h _ (by omega)]
/-- what around tells -/
structure AroundOf (ns : List Int) (f m : Int) (lows tops : List Int) : Prop where
  f0 : 0 ≤ f
  f1 : f < ns.length
  m0 : 1 ≤ m
  m1 : m ≤ ns.length
  lo : Below (psums ns) 1 lows (tellR ns f m)
  tp : 2 < ns.length → Below (psums (within ns)) 1 tops (tellR ns f m - ns.sum)
  te : ¬ 2 < ns.length → tops = []
def AroundShow (ns : List Int) (f m : Int) (lows tops : List Int) : Prop :=
  (0 ≤ f ∧ f < ns.length) ∧ (1 ≤ m ∧ m ≤ ns.length) ∧ (2 < ns.length → Below (psums (within ns)) 1 tops (tellR ns f m - ns.sum)) ∧ Below (psums ns) 1 lows (tellR ns f m) ∧ (2 < ns.length ∨ tops = [])
instance (ns : List Int) (f m : Int) (lows tops : List Int) : Decidable (AroundShow ns f m lows tops) := by unfold AroundShow; infer_instance
theorem AroundOf.shows {ns lows tops : List Int} {f m : Int} (h : AroundOf ns f m lows tops) : AroundShow ns f m lows tops :=
  ⟨⟨h.f0, h.f1⟩, ⟨h.m0, h.m1⟩, h.tp, h.lo, if q : 2 < ns.length then .inl q else .inr (h.te q)⟩
theorem AroundOf.not_more {ns lows tops : List Int} {f m : Int} {y : Int} (h : AroundOf ns f m lows tops) : ¬ AroundShow ns f m lows (tops ++ [y]) := by
  rintro ⟨_, _, q, _, r⟩
  by_cases c : 2 < ns.length
  · exact not_below_snoc (h.tp c) _ (q c)
  · rcases r with r | r
    · exact c r
    · simp at r
/-- every stretch of the ring has no more -/
theorem AroundOf.bound {ns lows tops : List Int} {f m : Int} (h : AroundOf ns f m lows tops) {a b : Int} (h0 : 0 ≤ a) (h1 : a < ns.length) (h2 : 1 ≤ b) (h3 : b ≤ ns.length) : tellR ns a b ≤ tellR ns f m := by
  have hz := psums_length ns
  by_cases c : a + b ≤ ns.length
  · rw [tellR_flat ns h0 (by omega) c, segS_pre ns h0 (by omega) c]
    exact h.lo.bound (by omega) h0 (by omega) (by omega)
  · rw [tellR_wrap ns h0 (by omega) (by omega) h3]
    by_cases e : b = ns.length
    · have q := h.lo.bound (by omega) (a := 0) (e := ns.length) (by omega) (by omega) (by omega)
      rw [nth_psums_len, nth_psums_0] at q
      rw [show a + b - (ns.length : Int) = a by omega]
      omega
    · have hw := within_length (ns := ns) (by omega)
      have q := (h.tp (by omega)).bound (by omega) (a := a + b - ns.length - 1) (e := a - 1) (by omega) (by omega) (by rw [psums_length]; omega)
      rw [nth_psums_within (by omega) (by omega), nth_psums_within (by omega) (by omega), show a - 1 + 1 = a by omega, show a + b - (ns.length : Int) - 1 + 1 = a + b - ns.length by omega] at q
      omega
/-! ### the sum place by place -/
def rsum (ns : List Int) (f : Int) : Nat → Int
  | 0 => 0
  | m + 1 => rsum ns f m + nth ns ((f + m) % ns.length)
theorem rsum_mod (ns : List Int) (f : Int) : ∀ m : Nat, rsum ns f m = rsum ns (f % ns.length) m
  | 0 => rfl
  | m + 1 => by
    rw [rsum, rsum, rsum_mod ns f m, Int.emod_add_emod]
theorem nth_double {ns : List Int} {i : Int} (h0 : 0 ≤ i) (h1 : i < 2 * ns.length) (hn : 0 < ns.length) : nth (ns ++ ns) i = nth ns (i % ns.length) := by
  by_cases c : i < ns.length
  · rw [nth_append_left h0 c, Int.emod_eq_of_lt h0 c]
  · have e : i % ns.length = i - ns.length := by
      rw [← Int.sub_emod_right, Int.emod_eq_of_lt (by omega) (by omega)]
    rw [e]
    unfold nth
    rw [List.getD_eq_getElem?_getD, List.getD_eq_getElem?_getD, List.getElem?_append_right (by omega)]
    congr 2
    omega
theorem rsum_tell (ns : List Int) {f : Int} (h0 : 0 ≤ f) (h1 : f < ns.length) : ∀ m : Nat, m ≤ ns.length → rsum ns f m = tellR ns f m
  | 0, _ => by
    unfold tellR
    rw [segS_pre _ h0 (by omega) (by rw [List.length_append]; omega)]
    simp [rsum]
  | m + 1, h => by
    rw [rsum, rsum_tell ns h0 h1 m (by omega)]
    unfold tellR
    rw [segS_pre _ h0 (by omega) (by rw [List.length_append]; omega), segS_pre _ h0 (by omega) (by rw [List.length_append]; omega)]
    have e := nth_psums (ns ++ ns) (j := (f + m).toNat) (by rw [List.length_append]; omega)
    have e' := nth_psums (ns ++ ns) (j := (f + m).toNat + 1) (by rw [List.length_append]; omega)
    rw [pre_succ (by rw [List.length_append]; omega), Int.toNat_of_nonneg (by omega), nth_double (by omega) (by omega) (by omega)] at e'
    rw [Int.toNat_of_nonneg (by omega)] at e
    rw [show (((f + m).toNat + 1 : Nat) : Int) = f + ((m + 1 : Nat) : Int) by omega] at e'
    omega
theorem AroundOf.rbound {ns lows tops : List Int} {f m : Int} (h : AroundOf ns f m lows tops) (a : Int) {b : Nat} (h2 : 1 ≤ b) (h3 : b ≤ ns.length) : rsum ns a b ≤ tellR ns f m := by
  have hn : 0 < ns.length := by omega
  rw [rsum_mod, rsum_tell ns (Int.emod_nonneg _ (by omega)) (Int.emod_lt_of_pos _ (by omega)) b h3]
  exact h.bound (Int.emod_nonneg _ (by omega)) (Int.emod_lt_of_pos _ (by omega)) (by omega) (by omega)
/-! ### turned by a place -/
def turn1 (ns : List Int) : List Int := cut ns (some 1) none ++ cut ns none (some 1)
theorem turn1_eq {ns : List Int} (h : 1 ≤ ns.length) : turn1 ns = ns.drop 1 ++ ns.take 1 := by
  unfold turn1 cut
  have e1 : HT.sIx ns.length 0 (some 1) = 1 := by
    show (if (1 : Int) < 0 then ((1 : Int) + (ns.length : Int)).toNat else min (1 : Int).toNat ns.length) = 1
    rw [if_neg (by omega)]
    show min 1 ns.length = 1
    omega
  have e2 : HT.sIx ns.length ns.length (some 1) = 1 := by
    show (if (1 : Int) < 0 then ((1 : Int) + (ns.length : Int)).toNat else min (1 : Int).toNat ns.length) = 1
    rw [if_neg (by omega)]
    show min 1 ns.length = 1
    omega
  rw [e1, e2]
  have e3 : HT.sIx ns.length ns.length none = ns.length := rfl
  have e4 : HT.sIx ns.length 0 none = 0 := rfl
  rw [e3, e4]
  rw [List.take_of_length_le (by rw [List.length_drop]; omega)]
  rfl
theorem turn1_length {ns : List Int} (h : 1 ≤ ns.length) : (turn1 ns).length = ns.length := by
  rw [turn1_eq h, List.length_append, List.length_drop, List.length_take]
  omega
theorem nth_turn1 {ns : List Int} (h : 1 ≤ ns.length) {i : Int} (h0 : 0 ≤ i) (h1 : i < ns.length) : nth (turn1 ns) i = nth ns ((i + 1) % ns.length) := by
  rw [turn1_eq h]
  by_cases c : i + 1 < ns.length
  · rw [nth_append_left h0 (by rw [List.length_drop]; omega), Int.emod_eq_of_lt (by omega) c]
    unfold nth
    rw [List.getD_eq_getElem?_getD, List.getD_eq_getElem?_getD, List.getElem?_drop]
    congr 2
    omega
  · have e : i + 1 = ns.length := by omega
    rw [e, Int.emod_self]
    unfold nth
    rw [List.getD_eq_getElem?_getD, List.getD_eq_getElem?_getD, List.getElem?_append_right (by rw [List.length_drop]; omega), List.length_drop, List.getElem?_take]
    rw [if_pos (by omega)]
    congr 2
    omega
theorem rsum_turn1 {ns : List Int} (h : 1 ≤ ns.length) (f : Int) : ∀ m : Nat, rsum (turn1 ns) f m = rsum ns (f + 1) m
  | 0 => rfl
  | m + 1 => by
    rw [rsum, rsum, rsum_turn1 h f m, turn1_length h, nth_turn1 h (Int.emod_nonneg _ (by omega)) (Int.emod_lt_of_pos _ (by omega)), Int.emod_add_emod]
    congr 3
    omega
/-- both tell as much -/
theorem turn1_same {ns l1 t1 l2 t2 : List Int} {f1 m1 f2 m2 : Int} (h : 1 ≤ ns.length) (A : AroundOf ns f1 m1 l1 t1) (B : AroundOf (turn1 ns) f2 m2 l2 t2) : tellR (turn1 ns) f2 m2 = tellR ns f1 m1 := by
  have hl := turn1_length h
  have a1 := A.m0; have a2 := A.m1; have b1 := B.m0; have b2 := B.m1
  have b3 := B.f1; have a3 := A.f1
  rw [hl] at b2 b3
  have e2 := rsum_tell (turn1 ns) B.f0 B.f1 m2.toNat (by omega)
  have e1 := rsum_tell ns A.f0 A.f1 m1.toNat (by omega)
  rw [show (m2.toNat : Int) = m2 by omega] at e2
  rw [show (m1.toNat : Int) = m1 by omega] at e1
  have q1 := A.rbound (f2 + 1) (b := m2.toNat) (by omega) (by omega)
  have q2 := B.rbound (f1 - 1) (b := m1.toNat) (by omega) (by omega)
  rw [rsum_turn1 h] at e2 q2
  rw [show f1 - 1 + 1 = f1 by omega] at q2
  omega
/-- from two best stretches -/
theorem around_small {ns lows : List Int} {f m : Int} (hn : 1 ≤ ns.length) (h : ¬ 2 < ns.length) (B : BestOf ns 1 f m lows) : AroundOf ns f m lows [] := by
  have b1 := B.f0; have b2 := B.m0; have b3 := B.fm
  refine ⟨b1, by omega, b2, by omega, ?_, fun c => absurd c h, fun _ => rfl⟩
  rw [tellR_flat ns b1 (by omega) b3]
  exact B.lo
theorem below_more {P lows : List Int} {least t t' : Int} (h : Below P least lows t) (ht : t ≤ t') : Below P least lows t' := ⟨h.1, fun i hi => by
  obtain ⟨a, b, c⟩ := h.2 i hi
  exact ⟨a, b, by omega⟩⟩
theorem around_flat {ns lows tops : List Int} {f m i c : Int} (h : 2 < ns.length) (B : BestOf ns 1 f m lows) (W : BestOf (within ns) 1 i c tops) (hc : ¬ ns.sum + segS (within ns) i c > segS ns f m) : AroundOf ns f m lows tops := by
  have b1 := B.f0; have b2 := B.m0; have b3 := B.fm
  refine ⟨b1, by omega, b2, by omega, ?_, fun _ => ?_, fun c => absurd h c⟩
  · rw [tellR_flat ns b1 (by omega) b3]
    exact B.lo
  · rw [tellR_flat ns b1 (by omega) b3]
    exact below_more W.lo (by omega)
theorem around_wrap {ns lows tops : List Int} {f m i c : Int} (h : 2 < ns.length) (B : BestOf ns 1 f m lows) (W : BestOf (within ns) 1 i c tops) (hc : ns.sum + segS (within ns) i c > segS ns f m) : AroundOf ns (i + 1 + c) (ns.length - c) lows tops := by
  have w1 := W.f0; have w2 := W.m0; have w3 := W.fm
  rw [within_length (by omega)] at w3
  have e : tellR ns (i + 1 + c) (ns.length - c) = ns.sum + segS (within ns) i c := by
    rw [tellR_wrap ns (by omega) (by omega) (by omega) (by omega), segS_pre _ w1 (by omega) (by rw [within_length (by omega)]; omega), nth_psums_within (by omega) (by omega), nth_psums_within w1 (by omega)]
    rw [show i + 1 + c + ((ns.length : Int) - c) - ns.length = i + 1 by omega, show i + c + 1 = i + 1 + c by omega]
    omega
  refine ⟨by omega, by omega, by omega, by omega, ?_, fun _ => ?_, fun c => absurd h c⟩
  · rw [e]
    exact below_more B.lo (by omega)
  · rw [e]
    exact below_more W.lo (by omega)
end Bs

namespace Bs
open PySem L2
def sp_below (_ : PySem.W.Frag) (_ : Cs) : Sp := fun vs H Q _ => ∃ (a b : Addr) (ss ls : List Int) (l t : Int), vs = [.ref a, .int l, .ref b, .int t] ∧ H a = some (.lst (ss.map V.int)) ∧ H b = some (.lst (ls.map V.int)) ∧ 0 ≤ l ∧ ls.length ≤ 1000 ∧ RetV H Q (.bl (decide (Below ss l ls t)))
theorem len_below {K : PySem.W.Frag} {cs : Cs} {vs : List V} {H : Hp} {Q : VK} {E : XK} (h : sp_below K cs vs H Q E) : vs.length = 4 := by
  obtain ⟨_, _, _, _, _, _, rfl, _⟩ := h; rfl
def sp_summed (_ : PySem.W.Frag) (_ : Cs) : Sp := fun vs H Q _ => ∃ (a : Addr) (ns : List Int), vs = [.ref a] ∧ H a = some (.lst (ns.map V.int)) ∧ ns.length ≤ 1000 ∧ RetI H Q (psums ns)
theorem len_summed {K : PySem.W.Frag} {cs : Cs} {vs : List V} {H : Hp} {Q : VK} {E : XK} (h : sp_summed K cs vs H Q E) : vs.length = 1 := by
  obtain ⟨_, _, rfl, _⟩ := h; rfl
def sp_Around_shows (_ : PySem.W.Frag) (cs : Cs) : Sp := fun vs H Q _ => ∃ (x dx lw tp a : Addr) (f m : Int) (ls ts ns : List Int), vs = [.ref x, .ref a] ∧ H x = some (.ins cs.Around dx (fAround f m lw tp)) ∧ H lw = some (.lst (ls.map V.int)) ∧ H tp = some (.lst (ts.map V.int)) ∧ H a = some (.lst (ns.map V.int)) ∧
  ns.length ≤ 1000 ∧ ls.length ≤ 1000 ∧ ts.length ≤ 1000 ∧ RetV H Q (.bl (decide (AroundShow ns f m ls ts)))
theorem len_Around_shows {K : PySem.W.Frag} {cs : Cs} {vs : List V} {H : Hp} {Q : VK} {E : XK} (h : sp_Around_shows K cs vs H Q E) : vs.length = 2 := by
  obtain ⟨_, _, _, _, _, _, _, _, _, _, rfl, _⟩ := h; rfl
def sp_l_sums (_ : PySem.W.Frag) (_ : Cs) : Sp := fun vs H Q _ => ∃ (a : Addr) (ns : List Int), vs = [.ref a] ∧ H a = some (.lst (ns.map V.int)) ∧ ns.length ≤ 1000 ∧ RetI H Q (psums ns)
theorem len_l_sums {K : PySem.W.Frag} {cs : Cs} {vs : List V} {H : Hp} {Q : VK} {E : XK} (h : sp_l_sums K cs vs H Q E) : vs.length = 1 := by
  obtain ⟨_, _, rfl, _⟩ := h; rfl
def sp_l_bounded (_ : PySem.W.Frag) (_ : Cs) : Sp := fun vs H Q _ => ∃ (a b : Addr) (ns ls : List Int) (l t : Int), vs = [.ref a, .int l, .ref b, .int t] ∧ H a = some (.lst (ns.map V.int)) ∧ H b = some (.lst (ls.map V.int)) ∧ 0 ≤ l ∧ ns.length ≤ 1000 ∧ ls.length ≤ 1000 ∧ RetV H Q (.bl (decide (Below (psums ns) l ls t)))
theorem len_l_bounded {K : PySem.W.Frag} {cs : Cs} {vs : List V} {H : Hp} {Q : VK} {E : XK} (h : sp_l_bounded K cs vs H Q E) : vs.length = 4 := by
  obtain ⟨_, _, _, _, _, _, rfl, _⟩ := h; rfl
def sp_l_numbers (_ : PySem.W.Frag) (_ : Cs) : Sp := fun vs H Q _ => ∃ (a : Addr) (ns : List Int), vs = [.ref a] ∧ H a = some (.lst (ns.map V.int)) ∧ ns.length ≤ 1000 ∧ RetV H Q (.bl true)
theorem len_l_numbers {K : PySem.W.Frag} {cs : Cs} {vs : List V} {H : Hp} {Q : VK} {E : XK} (h : sp_l_numbers K cs vs H Q E) : vs.length = 1 := by
  obtain ⟨_, _, rfl, _⟩ := h; rfl
def sp_l_sum (_ : PySem.W.Frag) (_ : Cs) : Sp := fun vs H Q _ => ∃ (a : Addr) (ns : List Int) (f m : Int), vs = [.ref a, .int f, .int m] ∧ H a = some (.lst (ns.map V.int)) ∧ 0 ≤ f ∧ f < ns.length ∧ 0 ≤ m ∧ m ≤ ns.length ∧ ns.length ≤ 1000 ∧ RetV H Q (.int (tellR ns f m))
theorem len_l_sum {K : PySem.W.Frag} {cs : Cs} {vs : List V} {H : Hp} {Q : VK} {E : XK} (h : sp_l_sum K cs vs H Q E) : vs.length = 3 := by
  obtain ⟨_, _, _, _, rfl, _⟩ := h; rfl
theorem rsum_list (ns : List Int) (f : Int) (m : Nat) : ((List.range m).map fun j : Nat => nth ns ((f + j) % ns.length)).sum = rsum ns f m := by
  induction m with
  | zero => rfl
  | succ m ih => rw [List.range_succ, List.map_append, List.sum_append, ih, rsum]; simp
structure IsK03 (K : PySem.W.Frag) (cs : Cs) : Prop where
  i : IsiC K cs.Around
  k1 : PySem.W.kitOne K (.ref cs.Around) (.ref cs.Answer) = some true
  k2 : PySem.W.kitOne K (.ref cs.Around) (.ref cs.Around) = some true
  k3 : PySem.W.kitOne K (.ref cs.Around) (.ref cs.Best) = some false
  k4 : PySem.W.kitOne K (.ref cs.Around) (.ref cs.Steep) = some false
def sp_l_right_k03 (_ : PySem.W.Frag) (cs : Cs) : Sp := fun vs H Q _ => ∃ (x dx lw tp a : Addr) (f m : Int) (ls ts ns : List Int), vs = [.ref a, .ref x] ∧ H x = some (.ins cs.Around dx (fAround f m lw tp)) ∧ H lw = some (.lst (ls.map V.int)) ∧ H tp = some (.lst (ts.map V.int)) ∧ H a = some (.lst (ns.map V.int)) ∧
  ns.length ≤ 1000 ∧ ls.length ≤ 1000 ∧ ts.length ≤ 1000 ∧ AroundOf ns f m ls ts ∧ RetV H Q (.bl true)
theorem len_l_right_k03 {K : PySem.W.Frag} {cs : Cs} {vs : List V} {H : Hp} {Q : VK} {E : XK} (h : sp_l_right_k03 K cs vs H Q E) : vs.length = 2 := by
  obtain ⟨_, _, _, _, _, _, _, _, _, _, rfl, _⟩ := h; rfl
def sp_l_row (K : PySem.W.Frag) (_ : Cs) : Sp := fun vs H Q _ => ∃ (a : Addr) (ns : List Int), vs = [.ref a] ∧ SqL K H a (ns.map V.int) ∧ ns.length ≤ 1000 ∧ RetI H Q (lrow ns)
theorem len_l_row {K : PySem.W.Frag} {cs : Cs} {vs : List V} {H : Hp} {Q : VK} {E : XK} (h : sp_l_row K cs vs H Q E) : vs.length = 1 := by
  obtain ⟨_, _, rfl, _⟩ := h; rfl
def sp_Around_init (_ : PySem.W.Frag) (cs : Cs) : Sp := fun vs H Q _ => ∃ (p dx a b : Addr) (f m : Int) (ns ms : List Int), vs = [.ref p, .int f, .int m, .ref a, .ref b] ∧ H p = some (.ins cs.Around dx []) ∧ H a = some (.lst (ns.map V.int)) ∧ H b = some (.lst (ms.map V.int)) ∧
  ∀ l t H', H l = none → H t = none → l ≠ t → (∀ b o, H b = some o → b ≠ p → H' b = some o) → H' p = some (.ins cs.Around dx (fAround f m l t)) → H' l = some (.lst (ns.map V.int)) → H' t = some (.lst (ms.map V.int)) → Q .non H'
theorem len_Around_init {K : PySem.W.Frag} {cs : Cs} {vs : List V} {H : Hp} {Q : VK} {E : XK} (h : sp_Around_init K cs vs H Q E) : vs.length = 5 := by
  obtain ⟨_, _, _, _, _, _, _, _, rfl, _⟩ := h; rfl
theorem make_Around {K : PySem.W.Frag} {cs : Cs} {H : Hp} {Q : VK} {E : XK} {a b : Addr} {f m : Int} {ns ms : List Int} (ha : H a = some (.lst (ns.map V.int))) (hb : H b = some (.lst (ms.map V.int)))
    (q : ∀ x dx l t H', H x = none → H l = none → H t = none → l ≠ t → Same H H' → H' x = some (.ins cs.Around dx (fAround f m l t)) → H' l = some (.lst (ns.map V.int)) → H' t = some (.lst (ms.map V.int)) → Q (.ref x) H') : kMake cs.Around (sp_Around_init K cs) [] E Q [.int f, .int m, .ref a, .ref b] H := by
  refine wp_kMake fun x dx nx nd ne => ?_
  have fr : ∀ l, (upd (upd H dx (.own x)) x (.ins cs.Around dx [])) l = none → H l = none := fun l nl => by
    by_cases e : l = x
    · rw [e]; exact nx
    · by_cases e2 : l = dx
      · rw [e2]; exact nd
      · rw [upd_ne e, upd_ne e2] at nl
        exact nl
  refine ⟨x, dx, a, b, f, m, ns, ms, rfl, upd_same, at_new (at_new ha nd) (free_upd nx (Ne.symm ne)), at_new (at_new hb nd) (free_upd nx (Ne.symm ne)), fun l t H' nl nt nlt keep hx hl ht => ⟨rfl, ?_⟩⟩
  exact q x dx l t H' nx (fr l nl) (fr t nt) nlt (same_make nx nd keep) hx hl ht
def sp_is_number (_ : PySem.W.Frag) (_ : Cs) : Sp := fun vs H Q _ => ∃ i : Int, vs = [.int i] ∧ Q (.bl true) H
theorem call_is_number {K : PySem.W.Frag} {cs : Cs} {i : Int} {H : Hp} {Q : VK} {E : XK} (q : Q (.bl true) H) : sp_is_number K cs [.int i] H Q E := ⟨i, rfl, q⟩
theorem len_is_number {K : PySem.W.Frag} {cs : Cs} {vs : List V} {H : Hp} {Q : VK} {E : XK} (h : sp_is_number K cs vs H Q E) : vs.length = 1 := by
  obtain ⟨_, rfl, _⟩ := h; rfl
def sp_asked_least (_ : PySem.W.Frag) (_ : Cs) : Sp := fun vs H Q _ => ∃ (a : Addr) (ns : List Int) (l : Int), vs = [.ref a, .int l] ∧ H a = some (.lst (ns.map V.int)) ∧ 1 ≤ l ∧ l ≤ ns.length ∧ Q .non H
theorem len_asked_least {K : PySem.W.Frag} {cs : Cs} {vs : List V} {H : Hp} {Q : VK} {E : XK} (h : sp_asked_least K cs vs H Q E) : vs.length = 2 := by
  obtain ⟨_, _, _, rfl, _⟩ := h; rfl
def sp_asked_row (_ : PySem.W.Frag) (_ : Cs) : Sp := fun vs H Q _ => ∃ (a : Addr) (ns : List Int), vs = [.ref a] ∧ H a = some (.lst (ns.map V.int)) ∧ IsRow ns ∧ ns.length ≤ 1000 ∧ RetV H Q .non
theorem len_asked_row {K : PySem.W.Frag} {cs : Cs} {vs : List V} {H : Hp} {Q : VK} {E : XK} (h : sp_asked_row K cs vs H Q E) : vs.length = 1 := by
  obtain ⟨_, _, rfl, _⟩ := h; rfl
def sp_best_of (_ : PySem.W.Frag) (_ : Cs) : Sp := fun vs H Q _ => ∃ (a : Addr) (ns : List Int) (l : Int), vs = [.ref a, .int l] ∧ H a = some (.lst (ns.map V.int)) ∧ 1 ≤ l ∧ l ≤ ns.length ∧ ns.length ≤ 1000 ∧
  ∀ (T lw : Addr) (f m : Int) (ls : List Int) (H' : Hp), BestOf ns l f m ls → H lw = none → Same H H' → H' T = some (.tup [.int f, .int m, .ref lw]) → H' lw = some (.lst (ls.map V.int)) → Q (.ref T) H'
theorem len_best_of {K : PySem.W.Frag} {cs : Cs} {vs : List V} {H : Hp} {Q : VK} {E : XK} (h : sp_best_of K cs vs H Q E) : vs.length = 2 := by
  obtain ⟨_, _, _, rfl, _⟩ := h; rfl
def sp_around (_ : PySem.W.Frag) (cs : Cs) : Sp := fun vs H Q _ => ∃ (a : Addr) (ns : List Int), vs = [.ref a] ∧ H a = some (.lst (ns.map V.int)) ∧ IsRow ns ∧ 1 ≤ ns.length ∧ ns.length ≤ 1000 ∧
  ∀ (x dx lw tp : Addr) (f m : Int) (ls ts : List Int) (H' : Hp), AroundOf ns f m ls ts → H x = none → H lw = none → H tp = none → lw ≠ tp → Same H H' → H' x = some (.ins cs.Around dx (fAround f m lw tp)) → H' lw = some (.lst (ls.map V.int)) → H' tp = some (.lst (ts.map V.int)) → Q (.ref x) H'
theorem len_around {K : PySem.W.Frag} {cs : Cs} {vs : List V} {H : Hp} {Q : VK} {E : XK} (h : sp_around K cs vs H Q E) : vs.length = 1 := by
  obtain ⟨_, _, rfl, _⟩ := h; rfl
def sp_law_k03 (K : PySem.W.Frag) (_ : Cs) : Sp := spLaw K
theorem len_law_k03 {K : PySem.W.Frag} {cs : Cs} {vs : List V} {H : Hp} {Q : VK} {E : XK} (h : sp_law_k03 K cs vs H Q E) : vs.length = 1 := by
  obtain ⟨_, _, rfl, _⟩ := h; rfl
end Bs
namespace Bs
open PySem L2
abbrev N_below : List Str := ["sums", "least", "lows", "told", "at", "low"]
def t_below (K : PySem.W.Frag) (cs : Cs) : TS :=
  (tSeq (tIfS (tTest (tOp rNe (tCB (cLen K) (tCons (tVar 2) tNil)) (tOp rSubI (tCB (cLen K) (tCons (tVar 0) tNil)) (tVar 1)))) (tRet (tC (.bl false))) tNext)
  (tSeq (tFor (iEnum K (tCons (tVar 2) tNil)) (gTup K 2 (gCons (gName 4) (gCons (gName 5) gNil))) (tIfS (tOr (tTest (tOp rGtI (tVar 5) (tOp (rIxL K) (tVar 0) (tVar 4)))) (tOr (tAnd (tTest (tOp rGtI (tVar 4) (tC (.int 0)))) (tTest (tOp rGtI (tVar 5) (tOp (rIxL K) (tVar 2) (tOp rSubI (tVar 4) (tC (.int 1))))))) (tTest (tOp rGtI (tOp rSubI (tOp (rIxL K) (tVar 0) (tOp rAddI (tVar 4) (tVar 1))) (tVar 5)) (tVar 3))))) (tRet (tC (.bl false))) tNext))
  (tRet (tC (.bl true)))))
abbrev N_summed : List Str := ["row", "found", "one"]
def t_summed (K : PySem.W.Frag) (cs : Cs) : TS :=
  (tSeq (tAsg (tLst (tCons (tC (.int 0)) tNil)) (gName 1))
  (tSeq (tFor (iList K (tVar 0)) (gName 2) (tDrop (tBM K "list" rAppend (tVar 1) (tCons (tOp rAddI (tOp (rIxL K) (tVar 1) (tUn rNegI (tC (.int 1)))) (tVar 2)) tNil))))
  (tRet (tVar 1))))
abbrev N_Around_shows : List Str := ["self", "row", "told", "within", "one"]
def t_Around_shows (K : PySem.W.Frag) (cs : Cs) : TS :=
  (tSeq (tIfS (tOr (tNot (tTest (tChain rLeI rLtI (tC (.int 0)) (tFld K (tVar 0) "first") (tCB (cLen K) (tCons (tVar 1) tNil))))) (tNot (tTest (tChain rLeI rLeI (tC (.int 1)) (tFld K (tVar 0) "many") (tCB (cLen K) (tCons (tVar 1) tNil)))))) (tRet (tC (.bl false))) tNext)
  (tSeq (tAsg (tCB (rSum K) (tCons (tSl (rSlL K) (tOp rCat (tVar 1) (tVar 1)) (tPart (tFld K (tVar 0) "first")) (tPart (tOp rAddI (tFld K (tVar 0) "first") (tFld K (tVar 0) "many")))) tNil)) (gName 2))
  (tSeq (tAsg (tLc (iList K (tSl (rSlL K) (tVar 1) (tPart (tC (.int 1))) (tPart (tUn rNegI (tC (.int 1)))))) (gName 4) tYes (tUn rNegI (tVar 4)) [4]) (gName 3))
  (tSeq (tIfS (tAnd (tTest (tOp rGtI (tCB (cLen K) (tCons (tVar 1) tNil)) (tC (.int 2)))) (tNot (tB (tCall (sp_below K cs) [] E0 (tCons (tCall (sp_summed K cs) [] E0 (tCons (tVar 3) tNil)) (tCons (tC (.int 1)) (tCons (tFld K (tVar 0) "tops") (tCons (tOp rSubI (tVar 2) (tCB (rSum K) (tCons (tVar 1) tNil))) tNil)))))))) (tRet (tC (.bl false))) tNext)
  (tRet (tAndV (tCall (sp_below K cs) [] E0 (tCons (tCall (sp_summed K cs) [] E0 (tCons (tVar 1) tNil)) (tCons (tC (.int 1)) (tCons (tFld K (tVar 0) "lows") (tCons (tVar 2) tNil))))) (tOrV (tOp rGtI (tCB (cLen K) (tCons (tVar 1) tNil)) (tC (.int 2))) (tOp (rEqD K) (tFld K (tVar 0) "tops") (tLst tNil)))))))))
abbrev N_l_sums : List Str := ["_law_row_here", "_law_found", "_law_one"]
def t_l_sums (K : PySem.W.Frag) (cs : Cs) : TS :=
  (tSeq (tAsg (tLst (tCons (tC (.int 0)) tNil)) (gName 1))
  (tSeq (tFor (iList K (tVar 0)) (gName 2) (tDrop (tBM K "list" rAppend (tVar 1) (tCons (tOp rAddI (tOp (rIxL K) (tVar 1) (tUn rNegI (tC (.int 1)))) (tVar 2)) tNil))))
  (tRet (tVar 1))))
abbrev N_l_bounded : List Str := ["_law_row_here", "_law_least", "_law_lows", "_law_most", "_law_told", "_law_at"]
def t_l_bounded (K : PySem.W.Frag) (cs : Cs) : TS :=
  (tSeq (tAsg (tCall (sp_l_sums K cs) [] E0 (tCons (tVar 0) tNil)) (gName 4))
  (tSeq (tIfS (tTest (tOp rNe (tCB (cLen K) (tCons (tVar 2) tNil)) (tOp rSubI (tOp rAddI (tCB (cLen K) (tCons (tVar 0) tNil)) (tC (.int 1))) (tVar 1)))) (tRet (tC (.bl false))) tNext)
  (tSeq (tFor (iRng1 (tCons (tCB (cLen K) (tCons (tVar 2) tNil)) tNil)) (gName 5) (tSeq (tIfS (tOr (tTest (tOp rGtI (tOp (rIxL K) (tVar 2) (tVar 5)) (tOp (rIxL K) (tVar 4) (tVar 5)))) (tAnd (tTest (tOp rGtI (tVar 5) (tC (.int 0)))) (tTest (tOp rGtI (tOp (rIxL K) (tVar 2) (tVar 5)) (tOp (rIxL K) (tVar 2) (tOp rSubI (tVar 5) (tC (.int 1)))))))) (tRet (tC (.bl false))) tNext)
  (tIfS (tTest (tOp rGtI (tOp rSubI (tOp (rIxL K) (tVar 4) (tOp rAddI (tVar 5) (tVar 1))) (tOp (rIxL K) (tVar 2) (tVar 5))) (tVar 3))) (tRet (tC (.bl false))) tNext)))
  (tRet (tC (.bl true))))))
abbrev N_l_numbers : List Str := ["_law_found", "_law_one"]
def t_l_numbers (K : PySem.W.Frag) (cs : Cs) : TS :=
  (tSeq (tIfS (tNot (tB (tCB (rIsi K) (tCons (tVar 0) (tCons (tC (.ty "list")) tNil))))) (tRet (tC (.bl false))) tNext)
  (tRet (tCB (rAll K) (tCons (tLc (iList K (tVar 0)) (gName 1) tYes (tAndV (tCB (rIsi K) (tCons (tVar 1) (tCons (tC (.ty "int")) tNil))) (tNotV (tCB (rIsi K) (tCons (tVar 1) (tCons (tC (.ty "bool")) tNil))))) [1]) tNil))))
abbrev N_l_sum : List Str := ["_law_row_here", "_law_first", "_law_many", "_law_at"]
def t_l_sum (K : PySem.W.Frag) (cs : Cs) : TS :=
  (tRet (tCB (rSum K) (tCons (tLc (iRng1 (tCons (tVar 2) tNil)) (gName 3) tYes (tOp (rIxL K) (tVar 0) (tOp rModI (tOp rAddI (tVar 1) (tVar 3)) (tCB (cLen K) (tCons (tVar 0) tNil)))) [3]) tNil)))
abbrev N_l_right_k03 : List Str := ["_law_row_here", "_law_found", "_law_told", "_law_inner", "_law_one"]
def t_l_right_k03 (K : PySem.W.Frag) (cs : Cs) : TS :=
  (tSeq (tIfS (tOr (tNot (tB (tCB (rIsi K) (tCons (tVar 1) (tCons (tC (.ref cs.Answer)) tNil))))) (tOr (tNot (tB (tCB (rIsi K) (tCons (tVar 1) (tCons (tC (.ref cs.Around)) tNil))))) (tB (tCB (rIsi K) (tCons (tVar 1) (tCons (tC (.ref cs.Best)) tNil)))))) (tRet (tC (.bl false))) tNext)
  (tSeq (tIfS (tOr (tB (tCB (rIsi K) (tCons (tVar 1) (tCons (tC (.ref cs.Steep)) tNil)))) (tNot (tB (tCall (sp_l_numbers K cs) [] E0 (tCons (tLst (tCons (tFld K (tVar 1) "first") (tCons (tFld K (tVar 1) "many") tNil))) tNil))))) (tRet (tC (.bl false))) tNext)
  (tSeq (tIfS (tOr (tNot (tB (tCall (sp_l_numbers K cs) [] E0 (tCons (tFld K (tVar 1) "lows") tNil)))) (tNot (tB (tCall (sp_l_numbers K cs) [] E0 (tCons (tFld K (tVar 1) "tops") tNil))))) (tRet (tC (.bl false))) tNext)
  (tSeq (tIfS (tOr (tNot (tTest (tChain rLeI rLtI (tC (.int 0)) (tFld K (tVar 1) "first") (tCB (cLen K) (tCons (tVar 0) tNil))))) (tNot (tTest (tChain rLeI rLeI (tC (.int 1)) (tFld K (tVar 1) "many") (tCB (cLen K) (tCons (tVar 0) tNil)))))) (tRet (tC (.bl false))) tNext)
  (tSeq (tAsg (tCall (sp_l_sum K cs) [] E0 (tCons (tVar 0) (tCons (tFld K (tVar 1) "first") (tCons (tFld K (tVar 1) "many") tNil)))) (gName 2))
  (tSeq (tIfS (tAnd (tTest (tOp rLtI (tCB (cLen K) (tCons (tVar 0) tNil)) (tC (.int 3)))) (tTest (tOp (rNeD K) (tFld K (tVar 1) "tops") (tLst tNil)))) (tRet (tC (.bl false))) tNext)
  (tSeq (tAsg (tLc (iList K (tSl (rSlL K) (tVar 0) (tPart (tC (.int 1))) (tPart (tUn rNegI (tC (.int 1)))))) (gName 4) tYes (tUn rNegI (tVar 4)) [4]) (gName 3))
  (tSeq (tIfS (tAnd (tTest (tOp rGtI (tCB (cLen K) (tCons (tVar 0) tNil)) (tC (.int 2)))) (tNot (tB (tCall (sp_l_bounded K cs) [] E0 (tCons (tVar 3) (tCons (tC (.int 1)) (tCons (tFld K (tVar 1) "tops") (tCons (tOp rSubI (tVar 2) (tCB (rSum K) (tCons (tVar 0) tNil))) tNil)))))))) (tRet (tC (.bl false))) tNext)
  (tRet (tCall (sp_l_bounded K cs) [] E0 (tCons (tVar 0) (tCons (tC (.int 1)) (tCons (tFld K (tVar 1) "lows") (tCons (tVar 2) tNil))))))))))))))
abbrev N_l_row : List Str := ["_law_script", "_law_most", "_law_cell"]
def t_l_row (K : PySem.W.Frag) (cs : Cs) : TS :=
  (tSeq (tAsg (tOp (rIxT K) (tTup (tCons (tC (.int 3)) (tCons (tC (.int 10)) (tCons (tC (.int 10)) (tCons (tC (.int 1000000)) tNil))))) (tOp rModI (tCB (rSum K) (tCons (tVar 0) tNil)) (tC (.int 4)))) (gName 1))
  (tRet (tLc (iList K (tVar 0)) (gName 2) tYes (tOp rSubI (tOp rModI (tVar 2) (tOp rAddI (tOp rMulI (tC (.int 2)) (tVar 1)) (tC (.int 1)))) (tVar 1)) [2])))
abbrev N_Around_init : List Str := ["self", "first", "many", "lows", "tops"]
def t_Around_init (K : PySem.W.Frag) (cs : Cs) : TS :=
  (tSeq (sFld K (tVar 0) (tVar 1) "first")
  (tSeq (sFld K (tVar 0) (tVar 2) "many")
  (tSeq (sFld K (tVar 0) (tCB (cList K) (tCons (tVar 3) tNil)) "lows")
  (sFld K (tVar 0) (tCB (cList K) (tCons (tVar 4) tNil)) "tops"))))
abbrev N_is_number : List Str := ["thing"]
def t_is_number (K : PySem.W.Frag) (cs : Cs) : TS :=
  (tRet (tAndV (tCB (rIsi K) (tCons (tVar 0) (tCons (tC (.ty "int")) tNil))) (tNotV (tCB (rIsi K) (tCons (tVar 0) (tCons (tC (.ty "bool")) tNil))))))
abbrev N_asked_least : List Str := ["row", "least"]
def t_asked_least (K : PySem.W.Frag) (cs : Cs) : TS :=
  (tIfS (tOr (tNot (tB (tCall (sp_is_number K cs) [] E0 (tCons (tVar 1) tNil)))) (tNot (tTest (tChain rLeI rLeI (tC (.int 1)) (tVar 1) (tCB (cLen K) (tCons (tVar 0) tNil)))))) tNever tNext)
abbrev N_asked_row : List Str := ["row", "one"]
def t_asked_row (K : PySem.W.Frag) (cs : Cs) : TS :=
  (tIfS (tOr (tNot (tB (tCB (rIsi K) (tCons (tVar 0) (tCons (tC (.ty "list")) tNil))))) (tNot (tB (tCB (rAll K) (tCons (tLc (iList K (tVar 0)) (gName 1) tYes (tAndV (tCall (sp_is_number K cs) [] E0 (tCons (tVar 1) tNil)) (tChain rLeI rLeI (tUn rNegI (tC (.int 1000000))) (tVar 1) (tC (.int 1000000)))) [1]) tNil))))) tNever tNext)
abbrev N_best_of : List Str := ["row", "least", "total", "lows", "low", "first", "many", "at"]
def t_best_of (K : PySem.W.Frag) (cs : Cs) : TS :=
  (tSeq (tAsg (tCall (sp_summed K cs) [] E0 (tCons (tVar 0) tNil)) (gName 2))
  (tSeq (tAsg (tLst tNil) (gName 3))
  (tSeq (tAsg (tC (.int 0)) (gName 4))
  (tSeq (tAsg (tC (.int 0)) (gName 5))
  (tSeq (tAsg (tVar 1) (gName 6))
  (tSeq (tFor (iRng1 (tCons (tOp rAddI (tOp rSubI (tCB (cLen K) (tCons (tVar 0) tNil)) (tVar 1)) (tC (.int 1))) tNil)) (gName 7) (tSeq (tIfS (tTest (tOp rLtI (tOp (rIxL K) (tVar 2) (tVar 7)) (tOp (rIxL K) (tVar 2) (tVar 4)))) (tAsg (tVar 7) (gName 4)) tNext)
  (tSeq (tDrop (tBM K "list" rAppend (tVar 3) (tCons (tOp (rIxL K) (tVar 2) (tVar 4)) tNil)))
  (tIfS (tTest (tOp rGtI (tOp rSubI (tOp (rIxL K) (tVar 2) (tOp rAddI (tVar 7) (tVar 1))) (tOp (rIxL K) (tVar 2) (tVar 4))) (tOp rSubI (tOp (rIxL K) (tVar 2) (tOp rAddI (tVar 5) (tVar 6))) (tOp (rIxL K) (tVar 2) (tVar 5))))) (tSeq (tAsg (tVar 4) (gName 5))
  (tAsg (tOp rSubI (tOp rAddI (tVar 7) (tVar 1)) (tVar 4)) (gName 6))) tNext))))
  (tRet (tTup (tCons (tVar 5) (tCons (tVar 6) (tCons (tVar 3) tNil)))))))))))
abbrev N_around : List Str := ["row", "told", "tops", "first", "many", "lows", "within", "inner", "count", "one"]
def t_around (K : PySem.W.Frag) (cs : Cs) : TS :=
  (tSeq (tDrop (tCall (sp_asked_row K cs) [] E0 (tCons (tVar 0) tNil)))
  (tSeq (tDrop (tCall (sp_asked_least K cs) [] E0 (tCons (tVar 0) (tCons (tC (.int 1)) tNil))))
  (tSeq (tAsg (tCall (sp_best_of K cs) [] E0 (tCons (tVar 0) (tCons (tC (.int 1)) tNil))) (gTup K 3 (gCons (gName 3) (gCons (gName 4) (gCons (gName 5) gNil)))))
  (tSeq (tAsg (tCB (rSum K) (tCons (tSl (rSlL K) (tVar 0) (tPart (tVar 3)) (tPart (tOp rAddI (tVar 3) (tVar 4)))) tNil)) (gName 1))
  (tSeq (tAsg (tLst tNil) (gName 2))
  (tSeq (tIfS (tTest (tOp rGtI (tCB (cLen K) (tCons (tVar 0) tNil)) (tC (.int 2)))) (tSeq (tAsg (tLc (iList K (tSl (rSlL K) (tVar 0) (tPart (tC (.int 1))) (tPart (tUn rNegI (tC (.int 1)))))) (gName 9) tYes (tUn rNegI (tVar 9)) [9]) (gName 6))
  (tSeq (tAsg (tCall (sp_best_of K cs) [] E0 (tCons (tVar 6) (tCons (tC (.int 1)) tNil))) (gTup K 3 (gCons (gName 7) (gCons (gName 8) (gCons (gName 2) gNil)))))
  (tIfS (tTest (tOp rGtI (tOp rAddI (tCB (rSum K) (tCons (tVar 0) tNil)) (tCB (rSum K) (tCons (tSl (rSlL K) (tVar 6) (tPart (tVar 7)) (tPart (tOp rAddI (tVar 7) (tVar 8)))) tNil))) (tVar 1))) (tSeq (tAsg (tOp rAddI (tOp rAddI (tVar 7) (tC (.int 1))) (tVar 8)) (gName 3))
  (tAsg (tOp rSubI (tCB (cLen K) (tCons (tVar 0) tNil)) (tVar 8)) (gName 4))) tNext))) tNext)
  (tRet (tMake cs.Around (sp_Around_init K cs) [] E0 (tCons (tVar 3) (tCons (tVar 4) (tCons (tVar 5) (tCons (tVar 2) tNil))))))))))))
abbrev N_law_k03 : List Str := ["_law_script", "_law_row_here", "_law_handed", "_law_again", "_law_other", "_law_found", "_law_told", "_law_cell", "_law_total", "_law_at"]
def t_law_k03 (K : PySem.W.Frag) (cs : Cs) : TS :=
  (tSeq (tAsg (tCall (sp_l_row K cs) [] E0 (tCons (tVar 0) tNil)) (gName 1))
  (tSeq (tIfS (tTest (tOp (rEqD K) (tVar 1) (tLst tNil))) (tRet (tC (.bl true))) tNext)
  (tSeq (tAsg (tCB (cList K) (tCons (tVar 1) tNil)) (gName 2))
  (tSeq (tFor (iRng1 (tCons (tC (.int 2)) tNil)) (gName 3) (tSeq (tAsg (tCall (sp_around K cs) [] E0 (tCons (tVar 2) tNil)) (gName 5))
  (tSeq (tIfS (tOr (tNot (tB (tCall (sp_l_right_k03 K cs) [] E0 (tCons (tVar 1) (tCons (tVar 5) tNil))))) (tOr (tTest (tOp rNotB (tMeth cs.Around "shows" (sp_Around_shows K cs) [] E0 (tVar 5) (tCons (tVar 1) tNil)) (tC (.bl true)))) (tTest (tOp (rNeD K) (tVar 2) (tVar 1))))) (tRet (tC (.bl false))) tNext)
  (tSeq (tAsg (tCall (sp_l_sum K cs) [] E0 (tCons (tVar 1) (tCons (tFld K (tVar 5) "first") (tCons (tFld K (tVar 5) "many") tNil)))) (gName 6))
  (tSeq (tFor (iList K (tSl (rSlL K) (tVar 0) tNoPart (tPart (tC (.int 7))))) (gName 7) (tSeq (tAsg (tC (.int 0)) (gName 8))
  (tFor (iRng1 (tCons (tCB (cLen K) (tCons (tVar 1) tNil)) tNil)) (gName 9) (tSeq (tAsg (tOp rAddI (tVar 8) (tOp (rIxL K) (tVar 1) (tOp rModI (tOp rAddI (tOp rDivI (tVar 7) (tC (.int 7))) (tVar 9)) (tCB (cLen K) (tCons (tVar 1) tNil))))) (gName 8))
  (tIfS (tTest (tOp rGtI (tVar 8) (tVar 6))) (tRet (tC (.bl false))) tNext)))))
  (tSeq (tDrop (tBM K "list" rAppend (tFld K (tVar 5) "tops") (tCons (tC (.int 0)) tNil)))
  (tIfS (tTest (tOp rNotB (tMeth cs.Around "shows" (sp_Around_shows K cs) [] E0 (tVar 5) (tCons (tVar 1) tNil)) (tC (.bl false)))) (tRet (tC (.bl false))) tNext)))))))
  (tSeq (tAsg (tCall (sp_around K cs) [] E0 (tCons (tOp rCat (tSl (rSlL K) (tVar 1) (tPart (tC (.int 1))) tNoPart) (tSl (rSlL K) (tVar 1) tNoPart (tPart (tC (.int 1))))) tNil)) (gName 4))
  (tRet (tOp rEq (tCall (sp_l_sum K cs) [] E0 (tCons (tOp rCat (tSl (rSlL K) (tVar 1) (tPart (tC (.int 1))) tNoPart) (tSl (rSlL K) (tVar 1) tNoPart (tPart (tC (.int 1))))) (tCons (tFld K (tVar 4) "first") (tCons (tFld K (tVar 4) "many") tNil)))) (tVar 6))))))))
end Bs
local macro_rules | `(tactic| walk_at "nn") => `(tactic| first
  | assumption
  | (with_reducible apply Bs.free_of'; (· assumption); (· walk_at "same")))
local macro_rules | `(tactic| walk_at "same") => `(tactic| first
  | assumption
  | exact L2.Same.refl _
  | (with_reducible apply Bs.same_new'; (· assumption); (· walk_at "same"))
  | (with_reducible apply Bs.same_mut'; (· walk_at "nn"); (· walk_at "same"))
  | (with_reducible apply Bs.same_r; (· assumption); (· walk_at "same")))
local macro_rules | `(tactic| walk_at "at") => `(tactic| first
  | assumption
  | with_reducible exact L2.upd_same
  | (with_reducible apply Bs.at_new'; (· assumption); (· walk_at "at"))
  | (with_reducible apply Bs.at_mut; (· walk_at "ne"); (· walk_at "at"))
  | (with_reducible apply Bs.at_same; (· assumption); (· walk_at "at")))
local macro_rules | `(tactic| walk_at "ne") => `(tactic| first
  | assumption
  | (apply Ne.symm; assumption)
  | (with_reducible apply Bs.ne_old; (· assumption); (· walk_at "at"))
  | (apply Ne.symm; (with_reducible apply Bs.ne_old; (· assumption); (· walk_at "at"))))
local macro_rules | `(tactic| walk_at "sq") => `(tactic| first
  | assumption
  | (with_reducible apply L2.SqL.of; walk_at "at")
  | (with_reducible apply Bs.sq_same; (· assumption); (· walk_at "same")))
local macro_rules | `(tactic| walk_at "tq") => `(tactic| first
  | assumption
  | (with_reducible apply L2.SqT.of; walk_at "at")
  | (with_reducible apply Bs.sqt_same; (· assumption); (· walk_at "same")))
local macro_rules | `(tactic| walk_at "rd") => `(tactic| first
  | assumption
  | (with_reducible apply L2.Rd.of; walk_at "at"))
local macro_rules | `(tactic| walk_at "om") => `(tactic| first
  | assumption
  | omega
  | (simp only [List.length_map, List.length_append, List.length_cons, List.length_nil, List.length_reverse, List.length_range, Bs.psums_length, Bs.psumsTo_length, Bs.lrow_length] at *; omega))
local macro_rules | `(tactic| walk_at "cl") => `(tactic| first
  | assumption
  | exact Bs.OkBest.cl (by assumption)
  | exact Bs.OkSteep.cl (by assumption)
  | exact Bs.OkAround.cl (by assumption)
  | exact Bs.OkExact.cl (by assumption)
  | exact Bs.OkNever.cl (by assumption)
  | exact Bs.OkSeveral.cl (by assumption))
local macro_rules | `(tactic| walk_at "na") => `(tactic| first
  | assumption
  | exact Bs.OkBest.first (by assumption)
  | exact Bs.OkBest.many (by assumption)
  | exact Bs.OkBest.lows (by assumption)
  | exact Bs.OkSteep.first (by assumption)
  | exact Bs.OkSteep.many (by assumption)
  | exact Bs.OkSteep.lows (by assumption)
  | exact Bs.OkAround.first (by assumption)
  | exact Bs.OkAround.many (by assumption)
  | exact Bs.OkAround.lows (by assumption)
  | exact Bs.OkAround.tops (by assumption)
  | exact Bs.OkExact.first (by assumption)
  | exact Bs.OkExact.many (by assumption)
  | exact Bs.OkNever.table (by assumption)
  | exact Bs.OkSeveral.stretches (by assumption)
  | exact Bs.OkSeveral.price (by assumption)
  | exact Bs.OkSeveral.outs (by assumption)
  | exact Bs.OkSeveral.ins (by assumption))
local macro_rules | `(tactic| walk_at "lk") => `(tactic| first
  | with_reducible exact Bs.lk_Best_first
  | with_reducible exact Bs.lk_Best_many
  | with_reducible exact Bs.lk_Best_lows
  | with_reducible exact Bs.lk_Steep_first
  | with_reducible exact Bs.lk_Steep_many
  | with_reducible exact Bs.lk_Steep_lows
  | with_reducible exact Bs.lk_Around_first
  | with_reducible exact Bs.lk_Around_many
  | with_reducible exact Bs.lk_Around_lows
  | with_reducible exact Bs.lk_Around_tops
  | with_reducible exact Bs.lk_Exact_first
  | with_reducible exact Bs.lk_Exact_many
  | with_reducible exact Bs.lk_Never_table
  | with_reducible exact Bs.lk_Several_stretches
  | with_reducible exact Bs.lk_Several_price
  | with_reducible exact Bs.lk_Several_outs
  | with_reducible exact Bs.lk_Several_ins)
local macro_rules | `(tactic| walk_at "no") => `(tactic| first
  | with_reducible exact Bs.no_Best_shows
  | with_reducible exact Bs.no_Steep_shows
  | with_reducible exact Bs.no_Around_shows
  | with_reducible exact Bs.no_Exact_shows
  | with_reducible exact Bs.no_Never_shows
  | with_reducible exact Bs.no_Several_shows
  | with_reducible exact Bs.no_Several_bounds)
local macro_rules | `(tactic| walk_at "hc") => `(tactic| simp only [decide_eq_true_eq, decide_eq_false_iff_not, Bool.not_eq_true', Bool.not_eq_false', Bool.and_eq_true, Bool.or_eq_true, Bool.or_eq_false_iff, Bool.and_eq_false_iff, Bool.not_true, Bool.not_false, Int.not_lt, Int.not_le] at *)
local macro_rules | `(tactic| walk_at "stp") => `(tactic| first
  | (with_reducible apply Bs.wp_var; (· with_unfolding_all rfl))
  | with_reducible refine Bs.wp_c ?_
  | with_reducible refine Bs.wp_op ?_
  | with_reducible refine Bs.wp_cons ?_
  | with_reducible refine Bs.wp_nil ?_
  | with_reducible refine Bs.wp_seq ?_
  | with_reducible refine Bs.wp_asgN ?_
  | (with_reducible apply Bs.wp_kSet; (· (simp only [List.set_cons_succ, List.set_cons_zero]; exact rfl)))
  | with_reducible refine Bs.wp_nx ?_
  | with_reducible refine Bs.wp_next ?_
  | with_reducible refine Bs.wp_ret ?_
  | with_reducible refine Bs.wp_rt ?_
  | with_reducible refine Bs.wp_drop ?_
  | with_reducible refine Bs.wp_kDrop ?_
  | with_reducible refine Bs.wp_addI ?_
  | with_reducible refine Bs.wp_subI ?_
  | with_reducible refine Bs.wp_un ?_
  | with_reducible refine Bs.wp_negI ?_
  | with_reducible refine Bs.wp_ltI ?_
  | with_reducible refine Bs.wp_leI ?_
  | with_reducible refine Bs.wp_gtI ?_
  | with_reducible refine Bs.wp_geI ?_
  | with_reducible refine Bs.wp_eqI ?_
  | with_reducible refine Bs.wp_neI ?_
  | with_reducible refine Bs.wp_eqB ?_
  | with_reducible refine Bs.wp_neB ?_
  | with_reducible refine Bs.wp_isB ?_
  | with_reducible refine Bs.wp_ntB ?_
  | with_reducible refine Bs.wp_test ?_
  | with_reducible refine Bs.wp_tB ?_
  | with_reducible refine Bs.wp_kB ?_
  | with_reducible refine Bs.wp_not ?_
  | with_reducible refine Bs.kNot_t ?_
  | with_reducible refine Bs.kNot_f ?_
  | with_reducible refine Bs.wp_kNot ?_
  | with_reducible refine Bs.wp_and ?_
  | with_reducible refine Bs.wp_or ?_
  | with_reducible refine Bs.wp_andV ?_
  | with_reducible refine Bs.wp_orV ?_
  | with_reducible refine Bs.wp_notV ?_
  | with_reducible refine Bs.kNotV_t ?_
  | with_reducible refine Bs.kNotV_f ?_
  | with_reducible refine Bs.wp_kNotV ?_
  | with_reducible refine Bs.kOr_f ?_
  | with_reducible refine Bs.kOr_nt ?_
  | with_reducible refine Bs.kOr_t ?_
  | with_reducible refine Bs.kOr_nf ?_
  | with_reducible refine Bs.kAnd_t ?_
  | with_reducible refine Bs.kAnd_nf ?_
  | with_reducible refine Bs.kAnd_f ?_
  | with_reducible refine Bs.kAnd_nt ?_
  | with_reducible refine Bs.kOrV_f ?_
  | with_reducible refine Bs.kOrV_nt ?_
  | with_reducible refine Bs.kAndV_t ?_
  | with_reducible refine Bs.kAndV_nf ?_
  | with_reducible refine Bs.kAndV_f ?_
  | with_reducible refine Bs.kIfS_t ?_
  | with_reducible refine Bs.kIfS_nf ?_
  | with_reducible refine Bs.kIfS_f ?_
  | with_reducible refine Bs.kIfS_nt ?_
  | with_reducible refine Bs.wp_chain ?_
  | with_reducible refine Bs.wp_ifE ?_
  | with_reducible refine Bs.wp_ifS ?_
  | with_reducible refine Bs.wp_asg ?_
  | with_reducible refine Bs.wp_kAsg ?_
  | (with_reducible apply Bs.wp_modI; (· walk_at "om"))
  | (with_reducible apply Bs.wp_divI; (· walk_at "om"))
  | with_reducible refine Bs.wp_call ?_
  | with_reducible refine Bs.wp_kCall ?_
  | with_reducible refine Bs.wp_tCB ?_
  | with_reducible refine Bs.wp_kCB ?_
  | (with_reducible apply Bs.wp_lenI; (· walk_at "sq"))
  | (with_reducible apply Bs.wp_len; (· walk_at "sq"))
  | (with_reducible apply Bs.wp_sum; (· walk_at "sq"))
  | (with_reducible apply Bs.wp_ixL; (· walk_at "sq"); (· walk_at "om"); (· walk_at "om"))
  | (with_reducible apply Bs.wp_ixN; (· walk_at "sq"); (· walk_at "om"); (· walk_at "om"))
  | (with_reducible apply Bs.wp_appI; (· walk_at "at"); (· walk_at "om"))
  | (with_reducible apply Bs.wp_app; (· walk_at "at"); (· walk_at "om"))
  | with_reducible refine Bs.wp_tBM ?_
  | (with_reducible apply Bs.wp_kBM; (· walk_at "at"))
  | with_reducible refine Bs.wp_tBM0 ?_
  | (with_reducible apply Bs.wp_kBM0; (· walk_at "at"))
  | with_reducible refine Bs.wp_lst ?_
  | with_reducible refine Bs.wp_tup ?_
  | with_reducible refine Bs.wp_sl ?_
  | with_reducible refine Bs.wp_part ?_
  | with_reducible refine Bs.wp_kPart ?_
  | with_reducible refine Bs.wp_noPart ?_
  | with_reducible refine Bs.wp_rev ?_
  | with_reducible refine Bs.wp_max2 ?_
  | with_reducible refine Bs.wp_min2 ?_
  | (with_reducible apply Bs.wp_eqL; (· walk_at "sq"); (· walk_at "sq"))
  | (with_reducible apply Bs.wp_neL; (· walk_at "sq"); (· walk_at "sq"))
  | with_reducible refine Bs.wp_for ?_
  | with_reducible refine Bs.wp_lc ?_
  | with_reducible refine Bs.wp_tYes ?_
  | with_reducible refine Bs.wp_iList ?_
  | (with_reducible apply Bs.wp_kIList; (· walk_at "sq"))
  | with_reducible refine Bs.wp_iRng1 ?_
  | (with_reducible apply Bs.wp_kRng1; (· walk_at "om"))
  | with_reducible refine Bs.wp_iRng2 ?_
  | (with_reducible apply Bs.wp_kRng2; (· walk_at "om"); (· walk_at "om"))
  | with_reducible refine Bs.wp_iRevR1 ?_
  | (with_reducible apply Bs.wp_kRev1; (· walk_at "om"))
  | with_reducible refine Bs.wp_iEnum ?_
  | (with_reducible apply Bs.wp_kEnum; (· walk_at "sq"))
  | (with_reducible apply Bs.wp_gName; (· (simp only [List.set_cons_succ, List.set_cons_zero]; exact rfl)))
  | (with_reducible apply Bs.wp_gTup; (· walk_at "tq"); (· with_unfolding_all rfl))
  | with_reducible refine Bs.wp_gCons ?_
  | with_reducible refine Bs.wp_gNil ?_
  | (with_reducible apply Bs.wp_all; (· walk_at "at"))
  | (with_reducible apply Bs.wp_any; (· walk_at "at"))
  | with_reducible refine Bs.isi_int ?_
  | with_reducible refine Bs.isi_int_bool ?_
  | with_reducible refine Bs.isi_bool ?_
  | (with_reducible apply Bs.isi_list; (· walk_at "at"))
  | (with_reducible apply Bs.isi_tup; (· walk_at "at"))
  | with_reducible refine Bs.wp_dget2 ?_
  | (with_reducible apply Bs.wp_kD2; (· walk_at "at"); (· intro Q1 hq; (repeat walk_at "stp"); exact hq); (· intro Q1 hq; (repeat walk_at "stp"); exact hq))
  | with_reducible refine Bs.wp_dput ?_
  | with_reducible refine Bs.wp_kPut ?_
  | (with_reducible apply Bs.wp_kPut2; (· walk_at "at"); (· walk_at "om"))
  | with_reducible refine Bs.wp_dnew ?_
  | with_reducible refine Bs.wp_din ?_
  | with_reducible refine Bs.wp_dnin ?_
  | (with_reducible apply Bs.wp_kIn; (· walk_at "rd"))
  | (with_reducible apply Bs.wp_kNin; (· walk_at "rd"))
  | with_reducible refine Bs.wp_dget ?_
  | with_reducible refine Bs.wp_fld ?_
  | (with_reducible apply Bs.wp_kFld; (· walk_at "at"); (· walk_at "cl"); (· walk_at "na"); (· walk_at "lk"))
  | with_reducible refine Bs.wp_sfld ?_
  | with_reducible refine Bs.wp_meth ?_
  | (with_reducible apply Bs.wp_kMeth; (· walk_at "at"); (· walk_at "no"))
  | with_reducible refine Bs.wp_kCallM ?_
  | with_reducible refine Bs.wp_make ?_
  | (with_reducible apply Bs.wp_slI; (· walk_at "sq"); intro _ _)
  | (with_reducible apply Bs.wp_catI; (· walk_at "at"); (· walk_at "at"); (· walk_at "om"); intro _ _)
  | (with_reducible apply Bs.isi_own; (· assumption); (· walk_at "at"); (· assumption))
  | with_reducible refine Bs.call_is_number ?_
  | with_reducible refine Bs.call_is_there ?_
  | with_reducible refine Bs.call_l_there ?_
  | (with_reducible apply Bs.wp_kAnd; (· intro hc Q1 hq; (try walk_at "hc"); (repeat walk_at "stp"); exact hq))
  | (with_reducible apply Bs.wp_kOr; (· intro hc Q1 hq; (try walk_at "hc"); (repeat walk_at "stp"); exact hq))
  | (with_reducible apply Bs.wp_kAndV; (· intro hc Q1 hq; (try walk_at "hc"); (repeat walk_at "stp"); exact hq))
  | (with_reducible apply Bs.wp_kOrV; (· intro hc Q1 hq; (try walk_at "hc"); (repeat walk_at "stp"); exact hq))
  | (with_reducible apply Bs.wp_kChain; (· intro hc Q1 hq; (try walk_at "hc"); (repeat walk_at "stp"); exact hq)))
local macro_rules | `(tactic| walk_at "go") => `(tactic| repeat walk_at "stp")
namespace Bs
open PySem L2
theorem pure_below {K : PySem.W.Frag} {cs : Cs} {vs : List V} {H : Hp} {Q : VK} {E : XK} (h : sp_below K cs vs H Q E) : t_below K cs { nx := fun _ H' => Q .non H', rt := Q } (start N_below vs) H := by
  obtain ⟨a, b, ss, ls, l, t, rfl, ha, hb, hl, hz, k⟩ := h
  unfold t_below
  show (_ : TS) _ [some (.ref a), some (.int l), some (.ref b), some (.int t), none, none] H
  walk_at "go"
  refine wp_kIfS (fun hc => ?_) (fun hc => ?_)
  · have e : decide (Below ss l ls t) = false := by
      refine decide_eq_false fun z => ?_
      have := z.1
      simp at hc
      omega
    rw [e] at k
    walk_at "go"
    exact k _ (Same.refl _)
  · have hn : (ls.length : Int) = ss.length - l := by simpa using hc
    walk_at "go"
    refine forE (ns := ls) (fun i σ H' => ∃ v4 v5, σ = [some (.ref a), some (.int l), some (.ref b), some (.int t), v4, v5] ∧ Same H H' ∧ ∀ j : Nat, j < i → nth ls j ≤ nth ss j ∧ (0 < j → nth ls j ≤ nth ls ((j : Int) - 1)) ∧ nth ss ((j : Int) + l) - nth ls j ≤ t)
      ⟨_, _, rfl, Same.refl _, fun j hj => by omega⟩ (fun i σ H' _ h => ?_) (fun i σ H' T hi h nT => ?_) (fun σ H' h => ?_)
    · obtain ⟨_, _, _, s, _⟩ := h
      walk_at "sq"
    · obtain ⟨_, _, rfl, s, hA⟩ := h
      walk_at "go"
      refine wp_kIfS (fun hc => ?_) (fun hc => ?_)
      · have e : decide (Below ss l ls t) = false := by
          refine decide_eq_false fun z => ?_
          obtain ⟨z1, z2, z3⟩ := z.2 i hi
          simp only [Bool.or_eq_true, Bool.and_eq_true, decide_eq_true_eq] at hc
          rcases hc with c | ⟨c1, c2⟩ | c
          · omega
          · have := z2 (by omega)
            omega
          · omega
        rw [e] at k
        walk_at "go"
        exact k _ (by walk_at "same")
      · simp only [Bool.or_eq_false_iff, Bool.and_eq_false_iff, decide_eq_false_iff_not] at hc
        obtain ⟨c1, c2, c3⟩ := hc
        walk_at "go"
        refine ⟨_, _, rfl, by walk_at "same", fun j hj => ?_⟩
        by_cases e : j = i
        · subst e
          refine ⟨by omega, fun h0 => ?_, by omega⟩
          rcases c2 with c2 | c2
          · omega
          · omega
        · exact hA j (by omega)
    · obtain ⟨_, _, rfl, s, hA⟩ := h
      walk_at "go"
      have e : decide (Below ss l ls t) = true := decide_eq_true ⟨hn, hA⟩
      rw [e] at k
      exact k _ s
theorem pure_summed {K : PySem.W.Frag} {cs : Cs} {vs : List V} {H : Hp} {Q : VK} {E : XK} (h : sp_summed K cs vs H Q E) : t_summed K cs { nx := fun _ H' => Q .non H', rt := Q } (start N_summed vs) H := by
  obtain ⟨a, ns, rfl, ha, hl, k⟩ := h
  unfold t_summed
  show (_ : TS) _ [some (.ref a), none, none] H
  walk_at "go"
  refine wp_lst1 fun p np => ?_
  walk_at "go"
  refine forI (ns := ns) (fun i σ H' => ∃ v, σ = [some (.ref a), some (.ref p), v] ∧ Same H H' ∧ H' p = some (.lst ((psumsTo ns i).map V.int))) ⟨_, rfl, by walk_at "same", by rw [psumsTo_zero]; exact upd_same⟩ (fun i σ H' _ h => ?_) (fun i σ H' hi h => ?_) (fun σ H' h => ?_)
  · obtain ⟨_, _, s, _⟩ := h
    walk_at "sq"
  · obtain ⟨_, rfl, s, hp⟩ := h
    walk_at "go"
    refine ⟨_, rfl, by walk_at "same", ?_⟩
    rw [psumsTo_succ hi]
    have e : nth (psumsTo ns i) (-1 + ((psumsTo ns i).length : Int)) = pre ns i := by
      rw [psumsTo_length, show (-1 + ((i + 1 : Nat) : Int)) = ((i : Nat) : Int) by omega, nth_psumsTo ns (Nat.le_refl _)]
    rw [e]
    exact upd_same
  · obtain ⟨_, rfl, s, hp⟩ := h
    walk_at "go"
    exact k p H' np s (by rw [hp, psumsTo_all])
theorem pure_Around_shows {K : PySem.W.Frag} {cs : Cs} {vs : List V} {H : Hp} {Q : VK} {E : XK} (c : OkAround K cs.Around) (h : sp_Around_shows K cs vs H Q E) : t_Around_shows K cs { nx := fun _ H' => Q .non H', rt := Q } (start N_Around_shows vs) H := by
  obtain ⟨x, dx, lw, tp, a, f, m, ls, ts, ns, rfl, hx, hlw, htp, ha, hz, hz2, hz3, k⟩ := h
  unfold t_Around_shows
  show (_ : TS) _ [some (.ref x), some (.ref a), none, none, none] H
  walk_at "go"
  refine wp_kIfS (fun hc => ?_) (fun hc => ?_)
  · have e : decide (AroundShow ns f m ls ts) = false := by
      refine decide_eq_false fun z => ?_
      obtain ⟨⟨z1, z2⟩, ⟨z3, z4⟩, _⟩ := z
      simp at hc
      omega
    rw [e] at k
    walk_at "go"
    exact k _ (Same.refl _)
  · have hc' : (0 ≤ f ∧ f < ns.length) ∧ (1 ≤ m ∧ m ≤ ns.length) := by
      simp at hc
      omega
    obtain ⟨⟨f0, f1⟩, ⟨m0, m1⟩⟩ := hc'
    walk_at "go"
    show kLc _ _ _ _ [some (.ref x), some (.ref a), some (.int (tellR ns f m)), none, none] _ _ _
    have hcw := cut_within_len ns
    refine lcI_int (ns := cut ns (some 1) (some (-1))) (fun y => -y) (by walk_at "sq") (by omega) (fun _ => rfl) (fun j H8 hj s8 Q1 hq => ?_) (fun b H8 nb s8 hb => ?_)
    · show (_ : TE) [some (.ref x), some (.ref a), some (.int (tellR ns f m)), none, some (.int (nth (cut ns (some 1) (some (-1))) j))] H8 Q1
      walk_at "go"
      exact hq _ (Same.refl _)
    · have hb' : H8 b = some (.lst ((within ns).map V.int)) := hb
      have hw := within_le ns
      walk_at "go"
      refine wp_kAndS (d := !decide (Below (psums (within ns)) 1 ts (tellR ns f m - ns.sum))) (fun hc Q1 hq => ?_) (fun H9 s9 => ?_)
      · walk_at "go"
        refine ⟨b, within ns, rfl, by walk_at "at", by omega, fun p H10 np s10 hp => ?_⟩
        walk_at "go"
        refine ⟨p, tp, psums (within ns), ts, 1, _, rfl, by walk_at "at", by walk_at "at", by omega, hz3, fun H11 s11 => ?_⟩
        walk_at "go"
        exact hq _ (by walk_at "same")
      · refine wp_kIfS (fun hd => ?_) (fun hd => ?_)
        · have e : decide (AroundShow ns f m ls ts) = false := by
            refine decide_eq_false fun z => ?_
            simp only [Bool.and_eq_true, Bool.not_eq_true', decide_eq_true_eq, decide_eq_false_iff_not] at hd
            exact hd.2 (z.2.2.1 (by omega))
          rw [e] at k
          walk_at "go"
          exact k _ (by walk_at "same")
        · have hd' : 2 < ns.length → Below (psums (within ns)) 1 ts (tellR ns f m - ns.sum) := by
            intro h2
            simp only [Bool.and_eq_false_iff, Bool.not_eq_false', decide_eq_true_eq, decide_eq_false_iff_not] at hd
            rcases hd with hd | hd
            · omega
            · exact hd
          walk_at "go"
          refine ⟨a, ns, rfl, by walk_at "at", hz, fun p H10 np s10 hp => ?_⟩
          walk_at "go"
          refine ⟨p, lw, psums ns, ls, 1, _, rfl, by walk_at "at", by walk_at "at", by omega, hz2, fun H11 s11 => ?_⟩
          walk_at "go"
          refine wp_kAndVS (d := decide (2 < (ns.length : Int)) || decide (ts = [])) (fun hc Q1 hq => ?_) (fun H12 s12 => ?_)
          · walk_at "go"
            refine wp_kOrVS (d := decide (ts = [])) (fun hc2 Q2 hq2 => ?_) (fun H12 s12 => ?_)
            · walk_at "go"
              refine wp_lst0 fun e0 ne0 => ?_
              walk_at "go"
              exact hq2 _ (by walk_at "same")
            · exact hq _ s12
          · have e : (decide (Below (psums ns) 1 ls (tellR ns f m)) && (decide (2 < (ns.length : Int)) || decide (ts = []))) = decide (AroundShow ns f m ls ts) := by
              apply Bool.eq_iff_iff.mpr
              rw [decide_eq_true_iff]
              simp only [Bool.and_eq_true, Bool.or_eq_true, decide_eq_true_eq]
              constructor
              · rintro ⟨z1, z2⟩
                exact ⟨⟨f0, f1⟩, ⟨m0, m1⟩, hd', z1, z2.elim (fun q => .inl (by omega)) .inr⟩
              · rintro ⟨_, _, _, z1, z2⟩
                exact ⟨z1, z2.elim (fun q => .inl (by omega)) .inr⟩
            have k' := k H12 (by walk_at "same")
            rw [← e] at k'
            exact k'
theorem pure_l_sums {K : PySem.W.Frag} {cs : Cs} {vs : List V} {H : Hp} {Q : VK} {E : XK} (h : sp_l_sums K cs vs H Q E) : t_l_sums K cs { nx := fun _ H' => Q .non H', rt := Q } (start N_l_sums vs) H := by
  obtain ⟨a, ns, rfl, ha, hl, k⟩ := h
  unfold t_l_sums
  show (_ : TS) _ [some (.ref a), none, none] H
  walk_at "go"
  refine wp_lst1 fun p np => ?_
  walk_at "go"
  refine forI (ns := ns) (fun i σ H' => ∃ v, σ = [some (.ref a), some (.ref p), v] ∧ Same H H' ∧ H' p = some (.lst ((psumsTo ns i).map V.int))) ⟨_, rfl, by walk_at "same", by rw [psumsTo_zero]; exact upd_same⟩ (fun i σ H' _ h => ?_) (fun i σ H' hi h => ?_) (fun σ H' h => ?_)
  · obtain ⟨_, _, s, _⟩ := h
    walk_at "sq"
  · obtain ⟨_, rfl, s, hp⟩ := h
    walk_at "go"
    refine ⟨_, rfl, by walk_at "same", ?_⟩
    rw [psumsTo_succ hi]
    have e : nth (psumsTo ns i) (-1 + ((psumsTo ns i).length : Int)) = pre ns i := by
      rw [psumsTo_length, show (-1 + ((i + 1 : Nat) : Int)) = ((i : Nat) : Int) by omega, nth_psumsTo ns (Nat.le_refl _)]
    rw [e]
    exact upd_same
  · obtain ⟨_, rfl, s, hp⟩ := h
    walk_at "go"
    exact k p H' np s (by rw [hp, psumsTo_all])
theorem pure_l_bounded {K : PySem.W.Frag} {cs : Cs} {vs : List V} {H : Hp} {Q : VK} {E : XK} (h : sp_l_bounded K cs vs H Q E) : t_l_bounded K cs { nx := fun _ H' => Q .non H', rt := Q } (start N_l_bounded vs) H := by
  obtain ⟨a, b, ns, ls, l, t, rfl, ha, hb, hl, hz1, hz, k⟩ := h
  unfold t_l_bounded
  show (_ : TS) _ [some (.ref a), some (.int l), some (.ref b), some (.int t), none, none] H
  walk_at "go"
  refine ⟨a, ns, rfl, by walk_at "at", hz1, fun p H1 np s1 hp => ?_⟩
  have hps := psums_length ns
  generalize psums ns = ss at *
  have hb1 : H1 b = some (.lst (ls.map V.int)) := by walk_at "at"
  walk_at "go"
  refine wp_kIfS (fun hc => ?_) (fun hc => ?_)
  · have e : decide (Below ss l ls t) = false := by
      refine decide_eq_false fun z => ?_
      have := z.1
      simp at hc
      omega
    rw [e] at k
    walk_at "go"
    exact k _ s1
  · have hn : (ls.length : Int) = ss.length - l := by
      have : (ls.length : Int) = ns.length + 1 - l := by simpa using hc
      omega
    walk_at "go"
    refine forN (fun i σ H' => ∃ v5, σ = [some (.ref a), some (.int l), some (.ref b), some (.int t), some (.ref p), v5] ∧ Same H1 H' ∧ ∀ j : Nat, j < i → nth ls j ≤ nth ss j ∧ (0 < j → nth ls j ≤ nth ls ((j : Int) - 1)) ∧ nth ss ((j : Int) + l) - nth ls j ≤ t)
      ⟨_, rfl, Same.refl _, fun j hj => by omega⟩ (fun i σ H' hi h => ?_) (fun σ H' h => ?_)
    · obtain ⟨_, rfl, s, hA⟩ := h
      have hi' : i < ls.length := by omega
      rw [Int.zero_add]
      walk_at "go"
      refine wp_kIfS (fun hc => ?_) (fun hc => ?_)
      · have e : decide (Below ss l ls t) = false := by
          refine decide_eq_false fun z => ?_
          obtain ⟨z1, z2, z3⟩ := z.2 i hi'
          simp only [Bool.or_eq_true, Bool.and_eq_true, decide_eq_true_eq] at hc
          rcases hc with c | ⟨c1, c2⟩
          · omega
          · have := z2 (by omega)
            omega
        rw [e] at k
        walk_at "go"
        exact k _ (by walk_at "same")
      · simp only [Bool.or_eq_false_iff, Bool.and_eq_false_iff, decide_eq_false_iff_not] at hc
        obtain ⟨c1, c2⟩ := hc
        walk_at "go"
        refine wp_kIfS (fun hd => ?_) (fun hd => ?_)
        · have e : decide (Below ss l ls t) = false := by
            refine decide_eq_false fun z => ?_
            obtain ⟨z1, z2, z3⟩ := z.2 i hi'
            simp only [decide_eq_true_eq] at hd
            omega
          rw [e] at k
          walk_at "go"
          exact k _ (by walk_at "same")
        · simp only [decide_eq_false_iff_not] at hd
          walk_at "go"
          refine ⟨_, rfl, by walk_at "same", fun j hj => ?_⟩
          by_cases e : j = i
          · subst e
            refine ⟨by omega, fun h0 => ?_, by omega⟩
            rcases c2 with c2 | c2
            · omega
            · omega
          · exact hA j (by omega)
    · obtain ⟨_, rfl, s, hA⟩ := h
      walk_at "go"
      have e : decide (Below ss l ls t) = true := decide_eq_true ⟨hn, fun i hi => hA i (by omega)⟩
      rw [e] at k
      exact k _ (by walk_at "same")
theorem pure_l_numbers {K : PySem.W.Frag} {cs : Cs} {vs : List V} {H : Hp} {Q : VK} {E : XK} (h : sp_l_numbers K cs vs H Q E) : t_l_numbers K cs { nx := fun _ H' => Q .non H', rt := Q } (start N_l_numbers vs) H := by
  obtain ⟨a, ns, rfl, ha, hl, k⟩ := h
  unfold t_l_numbers
  show (_ : TS) _ [some (.ref a), none] H
  walk_at "go"
  refine lcI_bl (ns := ns) (fun _ => true) (by walk_at "sq") (by omega) (fun _ => rfl) (fun i H1 hi s1 Q' hq => ?_) (fun p H1 np s1 hp => ?_)
  · show (_ : TE) [some (.ref a), some (.int (nth ns i))] H1 Q'
    walk_at "go"
    exact hq _ (Same.refl _)
  · walk_at "go"
    have e : (List.map (fun _ => true) ns).all id = true := by simp
    rw [e]
    exact k _ s1
theorem pure_l_sum {K : PySem.W.Frag} {cs : Cs} {vs : List V} {H : Hp} {Q : VK} {E : XK} (h : sp_l_sum K cs vs H Q E) : t_l_sum K cs { nx := fun _ H' => Q .non H', rt := Q } (start N_l_sum vs) H := by
  obtain ⟨a, ns, f, m, rfl, ha, f0, f1, m0, m1, hz, k⟩ := h
  unfold t_l_sum
  show (_ : TS) _ [some (.ref a), some (.int f), some (.int m), none] H
  walk_at "go"
  refine lcN (fun j => .int (nth ns ((f + j) % ns.length))) (by omega) (fun _ => rfl) (fun b H8 hb s8 Q1 hq => ?_) (fun p H8 np s8 hp => ?_)
  · show (_ : TE) [some (.ref a), some (.int f), some (.int m), some (.int (0 + b))] H8 Q1
    have q0 : 0 ≤ (f + (0 + (b : Int))) % (ns.length : Int) := Int.emod_nonneg _ (by omega)
    have q1 : (f + (0 + (b : Int))) % (ns.length : Int) < ns.length := Int.emod_lt_of_pos _ (by omega)
    walk_at "go"
    rw [Int.zero_add]
    exact hq _ (Same.refl _)
  · walk_at "go"
    refine wp_sum (ns := (List.range m.toNat).map fun j : Nat => nth ns ((f + j) % ns.length)) (SqL.of (by rw [hp, List.map_map]; rfl)) ?_
    rw [rsum_list, rsum_tell ns f0 f1 m.toNat (by omega), Int.toNat_of_nonneg m0]
    exact k _ s8
theorem pure_l_right_k03 {K : PySem.W.Frag} {cs : Cs} {vs : List V} {H : Hp} {Q : VK} {E : XK} (c : OkAround K cs.Around) (I : IsK03 K cs) (h : sp_l_right_k03 K cs vs H Q E) : t_l_right_k03 K cs { nx := fun _ H' => Q .non H', rt := Q } (start N_l_right_k03 vs) H := by
  obtain ⟨x, dx, lw, tp, a, f, m, ls, ts, ns, rfl, hx, hlw, htp, ha, hz, hz2, hz3, B, k⟩ := h
  obtain ⟨i, k1, k2, k3, k4⟩ := I
  have f0 := B.f0; have f1 := B.f1; have m0 := B.m0; have m1 := B.m1
  unfold t_l_right_k03
  show (_ : TS) _ [some (.ref a), some (.ref x), none, none, none] H
  walk_at "go"
  refine wp_lst2 fun q nq => ?_
  walk_at "go"
  refine ⟨q, [f, m], rfl, upd_same, by show 2 ≤ 1000; decide, fun H2 s2 => ?_⟩
  walk_at "go"
  refine ⟨lw, ls, rfl, by walk_at "at", hz2, fun H3 s3 => ?_⟩
  walk_at "go"
  refine ⟨tp, ts, rfl, by walk_at "at", hz3, fun H4 s4 => ?_⟩
  walk_at "go"
  have e : (!(decide (0 ≤ f) && decide (f < (ns.length : Int))) || !(decide (1 ≤ m) && decide (m ≤ (ns.length : Int)))) = false := by
    simp
    omega
  rw [e]
  walk_at "go"
  refine ⟨a, ns, f, m, rfl, by walk_at "at", f0, f1, by omega, m1, hz, fun H5 s5 => ?_⟩
  walk_at "go"
  refine wp_kAndS (d := !decide (ts = [])) (fun hc Q1 hq => ?_) (fun H6 s6 => ?_)
  · walk_at "go"
    refine wp_lst0 fun e0 ne0 => ?_
    walk_at "go"
    exact hq _ (by walk_at "same")
  have e : (decide ((ns.length : Int) < 3) && !decide (ts = [])) = false := by
    by_cases c : (ns.length : Int) < 3
    · rw [B.te (by omega)]
      simp
    · rw [decide_eq_false c]
      rfl
  rw [e]
  walk_at "go"
  have hcw := cut_within_len ns
  refine lcI_int (ns := cut ns (some 1) (some (-1))) (fun y => -y) (by walk_at "sq") (by omega) (fun _ => rfl) (fun j H8 hj s8 Q1 hq => ?_) (fun b H8 nb s8 hb => ?_)
  · show (_ : TE) [some (.ref a), some (.ref x), some (.int (tellR ns f m)), none, some (.int (nth (cut ns (some 1) (some (-1))) j))] H8 Q1
    walk_at "go"
    exact hq _ (Same.refl _)
  have hb' : H8 b = some (.lst ((within ns).map V.int)) := hb
  have hw := within_le ns
  walk_at "go"
  refine wp_kAndS (d := !decide (Below (psums (within ns)) 1 ts (tellR ns f m - ns.sum))) (fun hc Q1 hq => ?_) (fun H9 s9 => ?_)
  · walk_at "go"
    refine ⟨b, tp, within ns, ts, 1, _, rfl, by walk_at "at", by walk_at "at", by omega, by omega, hz3, fun H11 s11 => ?_⟩
    walk_at "go"
    exact hq _ (by walk_at "same")
  have e : (decide (2 < (ns.length : Int)) && !decide (Below (psums (within ns)) 1 ts (tellR ns f m - ns.sum))) = false := by
    by_cases c : 2 < (ns.length : Int)
    · rw [decide_eq_true (B.tp (by omega))]
      simp
    · rw [decide_eq_false c]
      rfl
  rw [e]
  walk_at "go"
  refine ⟨a, lw, ns, ls, 1, _, rfl, by walk_at "at", by walk_at "at", by omega, hz, hz2, fun H4 s4 => ?_⟩
  walk_at "go"
  rw [decide_eq_true B.lo]
  exact k _ (by walk_at "same")
theorem pure_l_row {K : PySem.W.Frag} {cs : Cs} {vs : List V} {H : Hp} {Q : VK} {E : XK} (h : sp_l_row K cs vs H Q E) : t_l_row K cs { nx := fun _ H' => Q .non H', rt := Q } (start N_l_row vs) H := by
  obtain ⟨a, ns, rfl, ha, hl, k⟩ := h
  unfold t_l_row
  show (_ : TS) _ [some (.ref a), none, none] H
  walk_at "go"
  refine wp_kTup (by decide) fun p np => ?_
  walk_at "go"
  have h0 : 0 ≤ ns.sum % 4 := Int.emod_nonneg _ (by decide)
  have h1 : ns.sum % 4 < 4 := Int.emod_lt_of_pos _ (by decide)
  refine ⟨p, _, _, _, rfl, rfl, SqT.of upd_same, atI_nth (ns := [3, 10, 10, 1000000]) h0 h1, ?_⟩
  walk_at "go"
  have hm := lmost_cases ns
  show kLc _ _ _ _ [some (.ref a), some (.int (lmost ns)), none] _ _ _
  refine lcI_int (ns := ns) (fun c => c % (2 * lmost ns + 1) - lmost ns) (by walk_at "sq") (by omega) (fun _ => rfl) (fun i H1 hi s1 Q' hq => ?_) (fun p H1 np s1 hp => ?_)
  · show (_ : TE) [some (.ref a), some (.int (lmost ns)), some (.int (nth ns i))] H1 Q'
    walk_at "go"
    refine wp_mulI (.inl (by decide)) ?_
    walk_at "go"
    exact hq _ (Same.refl _)
  · walk_at "go"
    exact k p H1 (by walk_at "nn") (by walk_at "same") hp
theorem pure_Around_init {K : PySem.W.Frag} {cs : Cs} {vs : List V} {H : Hp} {Q : VK} {E : XK} (c : OkAround K cs.Around) (h : sp_Around_init K cs vs H Q E) : t_Around_init K cs { nx := fun _ H' => Q .non H', rt := Q } (start N_Around_init vs) H := by
  obtain ⟨p, dx, a, b, f, m, ns, ms, rfl, hp, ha, hb, k⟩ := h
  have hpa : a ≠ p := ne_of ha hp (by intro z; cases z)
  have hpb : b ≠ p := ne_of hb hp (by intro z; cases z)
  unfold t_Around_init
  show (_ : TS) _ [some (.ref p), some (.int f), some (.int m), some (.ref a), some (.ref b)] H
  walk_at "go"
  refine wp_kPutF hp c.cl c.first (by show 0 < 1000; decide) (pt_Around_first (x0 := f)) ?_
  walk_at "go"
  refine wp_kPutF upd_same c.cl c.many (by show 1 < 1000; decide) (pt_Around_many (x0 := f) (x1 := m)) ?_
  walk_at "go"
  refine wp_list (xs := ns.map V.int) (SqL.of (by walk_at "at")) fun l nl => ?_
  have hpl : p ≠ l := ne_of_none upd_same nl
  have hbl : b ≠ l := ne_of_none (by walk_at "at") nl
  walk_at "go"
  refine wp_kPutF (at_new upd_same nl) c.cl c.lows (by show 2 < 1000; decide) (pt_Around_lows (x0 := f) (x1 := m) (x2 := l)) ?_
  walk_at "go"
  refine wp_list (xs := ms.map V.int) (SqL.of (by walk_at "at")) fun t nt => ?_
  have hpt : p ≠ t := ne_of_none upd_same nt
  have hlp : l ≠ p := Ne.symm hpl
  have htp : t ≠ p := Ne.symm hpt
  have htl : l ≠ t := ne_of_none (by walk_at "at") nt
  walk_at "go"
  refine wp_kPutF (at_new upd_same nt) c.cl c.tops (by show 3 < 1000; decide) (pt_Around_tops (x0 := f) (x1 := m) (x2 := l) (x3 := t)) ?_
  walk_at "go"
  rw [upd_ne hlp, upd_ne hlp] at nl
  rw [upd_ne htp, upd_ne (Ne.symm htl), upd_ne htp, upd_ne htp] at nt
  refine k l t _ nl nt htl (fun b o e hb => ?_) upd_same (by rw [upd_ne hlp, upd_ne htl, upd_ne hlp, upd_same]) (by rw [upd_ne htp, upd_same])
  rw [upd_ne hb, upd_ne (ne_of_none e nt), upd_ne hb, upd_ne (ne_of_none e nl), upd_ne hb, upd_ne hb]
  exact e
theorem pure_is_number {K : PySem.W.Frag} {cs : Cs} {vs : List V} {H : Hp} {Q : VK} {E : XK} (h : sp_is_number K cs vs H Q E) : t_is_number K cs { nx := fun _ H' => Q .non H', rt := Q } (start N_is_number vs) H := by
  obtain ⟨i, rfl, k⟩ := h
  unfold t_is_number
  show (_ : TS) _ [some (.int i)] H
  walk_at "go"
  exact k
theorem pure_asked_least {K : PySem.W.Frag} {cs : Cs} {vs : List V} {H : Hp} {Q : VK} {E : XK} (h : sp_asked_least K cs vs H Q E) : t_asked_least K cs { nx := fun _ H' => Q .non H', rt := Q } (start N_asked_least vs) H := by
  obtain ⟨a, ns, l, rfl, ha, h1, h2, k⟩ := h
  unfold t_asked_least
  show (_ : TS) _ [some (.ref a), some (.int l)] H
  walk_at "go"
  have e : (decide (1 ≤ l) && decide (l ≤ (ns.length : Int))) = true := by simp [h1, h2]
  rw [e]
  walk_at "go"
  exact k
theorem pure_asked_row {K : PySem.W.Frag} {cs : Cs} {vs : List V} {H : Hp} {Q : VK} {E : XK} (h : sp_asked_row K cs vs H Q E) : t_asked_row K cs { nx := fun _ H' => Q .non H', rt := Q } (start N_asked_row vs) H := by
  obtain ⟨a, ns, rfl, ha, hr, hl, k⟩ := h
  unfold t_asked_row
  show (_ : TS) _ [some (.ref a), none] H
  walk_at "go"
  refine lcI_bl (ns := ns) (fun _ => true) (by walk_at "sq") (by omega) (fun _ => rfl) (fun i H1 hi s1 Q' hq => ?_) (fun p H1 np s1 hp => ?_)
  · have hb := hr _ (nth_mem hi)
    show (_ : TE) [some (.ref a), some (.int (nth ns i))] H1 Q'
    walk_at "go"
    have e : (decide (-1000000 ≤ nth ns ↑i) && decide (nth ns ↑i ≤ 1000000)) = true := by simp [hb.1, hb.2]
    rw [e]
    exact hq _ (Same.refl _)
  · walk_at "go"
    have e : (List.map (fun _ => true) ns).all id = true := by simp
    rw [e]
    walk_at "go"
    exact k _ s1
theorem pure_best_of {K : PySem.W.Frag} {cs : Cs} {vs : List V} {H : Hp} {Q : VK} {E : XK} (h : sp_best_of K cs vs H Q E) : t_best_of K cs { nx := fun _ H' => Q .non H', rt := Q } (start N_best_of vs) H := by
  obtain ⟨a, ns, l, rfl, ha, h1, h2, hz, k⟩ := h
  unfold t_best_of
  show (_ : TS) _ [some (.ref a), some (.int l), none, none, none, none, none, none] H
  walk_at "go"
  refine ⟨a, ns, rfl, by walk_at "at", hz, fun t H1 nt s1 ht => ?_⟩
  have hps := psums_length ns
  walk_at "go"
  refine wp_lst0 fun lw nlw => ?_
  walk_at "go"
  refine forN (fun i σ H' => ∃ low f m v ls, σ = [some (.ref a), some (.int l), some (.ref t), some (.ref lw), some (.int low), some (.int f), some (.int m), v] ∧ Same H1 H' ∧ H' lw = some (.lst (ls.map V.int)) ∧ BestTo (psums ns) l i ls low f m)
    ⟨0, 0, l, _, [], rfl, by walk_at "same", upd_same, bestTo_zero (by omega) (by omega)⟩ (fun i σ H' hi h => ?_) (fun σ H' h => ?_)
  · obtain ⟨low, f, m, v, ls, rfl, s2, hlw, B⟩ := h
    have b1 := B.l0; have b2 := B.li; have b3 := B.f0; have b4 := B.m0; have b5 := B.fm; have b6 := B.ln
    have nlw1 : H1 lw = none := nlw
    rw [Int.zero_add]
    walk_at "go"
    refine wp_kIfSetI (by with_unfolding_all rfl) (fun _ Q1 hq => by walk_at "go"; exact hq) (fun low' el => ?_)
    simp only [decide_eq_true_eq, List.set_cons_succ, List.set_cons_zero] at el ⊢
    have bl : 0 ≤ low' ∧ low' ≤ i := by
      rw [el]
      split <;> omega
    obtain ⟨bl1, bl2⟩ := bl
    walk_at "go"
    refine wp_kIfS (fun hc => ?_) (fun hc => ?_)
    · simp only [decide_eq_true_eq] at hc
      walk_at "go"
      exact ⟨low', low', (i : Int) + l - low', _, _, rfl, by walk_at "same", upd_same, bestTo_step B (by omega) (by omega) el (by rw [if_pos hc]) (by rw [if_pos hc])⟩
    · simp only [decide_eq_false_iff_not] at hc
      walk_at "go"
      exact ⟨low', f, m, _, _, rfl, by walk_at "same", upd_same, bestTo_step B (by omega) (by omega) el (by rw [if_neg hc]) (by rw [if_neg hc])⟩
  · obtain ⟨low, f, m, v, ls, rfl, s2, hlw, B⟩ := h
    walk_at "go"
    refine wp_kTup (by show 3 ≤ 100000; decide) fun T nT => ?_
    walk_at "go"
    exact k T lw f m ls _ (bestTo_end B (by omega) (by omega)) (by walk_at "nn") (by walk_at "same") upd_same (by walk_at "at")
theorem pure_around {K : PySem.W.Frag} {cs : Cs} {vs : List V} {H : Hp} {Q : VK} {E : XK} (h : sp_around K cs vs H Q E) : t_around K cs { nx := fun _ H' => Q .non H', rt := Q } (start N_around vs) H := by
  obtain ⟨a, ns, rfl, ha, hr, h1, hz, k⟩ := h
  unfold t_around
  show (_ : TS) _ [some (.ref a), none, none, none, none, none, none, none, none, none] H
  walk_at "go"
  refine ⟨a, ns, rfl, by walk_at "at", hr, hz, fun H1 s1 => ?_⟩
  walk_at "go"
  refine ⟨a, ns, 1, rfl, by walk_at "at", by omega, by omega, ?_⟩
  walk_at "go"
  refine ⟨a, ns, 1, rfl, by walk_at "at", by omega, by omega, hz, fun T lw f m ls H2 B nlw s2 hT hlw => ?_⟩
  have b1 := B.f0; have b2 := B.m0; have b3 := B.fm
  walk_at "go"
  refine wp_lst0 fun t0 nt0 => ?_
  walk_at "go"
  show kIfS _ _ _ [some (.ref a), some (.int (segS ns f m)), some (.ref t0), some (.int f), some (.int m), some (.ref lw), none, none, none, none] _ _
  refine wp_kIfS (fun hc => ?_) (fun hc => ?_)
  · simp only [decide_eq_true_eq] at hc
    walk_at "go"
    have hcw := cut_within_len ns
    refine lcI_int (ns := cut ns (some 1) (some (-1))) (fun y => -y) (by walk_at "sq") (by omega) (fun _ => rfl) (fun j H8 hj s8 Q1 hq => ?_) (fun b H8 nb s8 hb => ?_)
    · show (_ : TE) [some (.ref a), some (.int (segS ns f m)), some (.ref t0), some (.int f), some (.int m), some (.ref lw), none, none, none, some (.int (nth (cut ns (some 1) (some (-1))) j))] H8 Q1
      walk_at "go"
      exact hq _ (Same.refl _)
    · have hb' : H8 b = some (.lst ((within ns).map V.int)) := hb
      have hw := within_le ns
      have hwl := within_length h1
      walk_at "go"
      refine ⟨b, within ns, 1, rfl, by walk_at "at", by omega, by omega, by omega, fun T2 tp i c ts H3 W ntp s3 hT2 htp => ?_⟩
      have w1 := W.f0; have w2 := W.m0; have w3 := W.fm
      walk_at "go"
      refine wp_kIfS (fun hd => ?_) (fun hd => ?_)
      · simp only [decide_eq_true_eq] at hd
        walk_at "go"
        refine make_Around (by walk_at "at") (by walk_at "at") fun x dx l2 t2 H4 nx nl2 nt2 nlt s4 hx hl2 ht2 => ?_
        walk_at "go"
        exact k x dx l2 t2 _ _ ls ts H4 (around_wrap (by omega) B W hd) (by walk_at "nn") (by walk_at "nn") (by walk_at "nn") nlt (by walk_at "same") hx hl2 ht2
      · simp only [decide_eq_false_iff_not] at hd
        walk_at "go"
        refine make_Around (by walk_at "at") (by walk_at "at") fun x dx l2 t2 H4 nx nl2 nt2 nlt s4 hx hl2 ht2 => ?_
        walk_at "go"
        exact k x dx l2 t2 _ _ ls ts H4 (around_flat (by omega) B W hd) (by walk_at "nn") (by walk_at "nn") (by walk_at "nn") nlt (by walk_at "same") hx hl2 ht2
  · simp only [decide_eq_false_iff_not] at hc
    walk_at "go"
    refine make_Around (by walk_at "at") (by walk_at "at") fun x dx l2 t2 H4 nx nl2 nt2 nlt s4 hx hl2 ht2 => ?_
    walk_at "go"
    exact k x dx l2 t2 _ _ ls [] H4 (around_small h1 (by omega) B) (by walk_at "nn") (by walk_at "nn") (by walk_at "nn") nlt (by walk_at "same") hx hl2 ht2
theorem pure_law_k03 {K : PySem.W.Frag} {cs : Cs} {vs : List V} {H : Hp} {Q : VK} {E : XK} (c : OkAround K cs.Around) (h : sp_law_k03 K cs vs H Q E) : t_law_k03 K cs { nx := fun _ H' => Q .non H', rt := Q } (start N_law_k03 vs) H := by
  obtain ⟨s, ns, rfl, hS, hl, k⟩ := h
  unfold t_law_k03
  show (_ : TS) _ [some (.ref s), none, none, none, none, none, none, none, none, none] H
  have hrow := lrow_row ns
  have hlen := lrow_length ns
  generalize erow : lrow ns = row at hrow hlen
  walk_at "go"
  refine ⟨s, ns, rfl, hS, by omega, ?_⟩
  rw [erow]
  intro r H1 nr s1 hr
  walk_at "go"
  refine wp_lst0 fun e0 ne0 => ?_
  walk_at "go"
  refine wp_kIfS (fun hc => ?_) (fun hc => ?_)
  · walk_at "go"
    exact k _
  have hne : 0 < row.length := by
    simp only [decide_eq_false_iff_not] at hc
    exact List.length_pos_iff.mpr hc
  walk_at "go"
  refine wp_list (xs := row.map V.int) (by walk_at "sq") fun h nh => ?_
  walk_at "go"
  have hz := psums_length row
  have hr2 : upd (upd H1 e0 (.lst (([] : List Int).map V.int))) h (.lst (row.map V.int)) r = some (.lst (row.map V.int)) := by walk_at "at"
  have hh2 : upd (upd H1 e0 (.lst (([] : List Int).map V.int))) h (.lst (row.map V.int)) h = some (.lst (row.map V.int)) := by walk_at "at"
  have hS2 : SqL K (upd (upd H1 e0 (.lst (([] : List Int).map V.int))) h (.lst (row.map V.int))) s (ns.map V.int) := by walk_at "sq"
  generalize upd (upd H1 e0 (.lst (([] : List Int).map V.int))) h (.lst (row.map V.int)) = G at hr2 hh2 hS2
  -- behind the first turn: what was told last
  refine forNS (fun i σ => ∃ v3 v5 v6 v7 v8 v9, σ = [some (.ref s), some (.ref r), some (.ref h), v3, none, v5, v6, v7, v8, v9] ∧ (0 < i → ∃ f m ls ts, AroundOf row f m ls ts ∧ v6 = some (.int (tellR row f m)))) ⟨_, _, _, _, _, _, rfl, fun q => by omega⟩ (fun i σ H3 hi h s3 => ?_) (fun σ H3 h s3 => ?_)
  · obtain ⟨v3, v5, v6, v7, v8, v9, rfl, _⟩ := h
    walk_at "go"
    refine ⟨h, row, rfl, by walk_at "at", hrow, by omega, by omega, fun x dx lw tp f m ls ts H5 B nx nlw ntp nlt s5 hx hlw htp => ?_⟩
    have f0 := B.f0; have f1 := B.f1; have m0 := B.m0; have m1 := B.m1
    have hls := B.lo.1
    have hts : ts.length ≤ 100 := by
      by_cases q : 2 < row.length
      · have q1 := (B.tp q).1
        rw [psums_length, within_length (by omega)] at q1
        omega
      · rw [B.te q]
        show 0 ≤ 100
        decide
    walk_at "go"
    refine ⟨x, dx, lw, tp, r, f, m, ls, ts, row, rfl, by walk_at "at", by walk_at "at", by walk_at "at", by walk_at "at", by omega, by omega, by omega, B, fun H6 s6 => ?_⟩
    walk_at "go"
    refine ⟨x, dx, lw, tp, r, f, m, ls, ts, row, rfl, by walk_at "at", by walk_at "at", by walk_at "at", by walk_at "at", by omega, by omega, by omega, fun H7 s7 => ?_⟩
    rw [decide_eq_true B.shows]
    walk_at "go"
    simp only [decide_true, Bool.not_true, Bool.or_false, Bool.false_or]
    walk_at "go"
    refine ⟨r, row, f, m, rfl, by walk_at "at", f0, f1, by omega, m1, by omega, fun H8 s8 => ?_⟩
    walk_at "go"
    refine forIS (ns := cut ns none (some 7)) (by walk_at "sq") (fun j σ => ∃ v7 v8 v9, σ = [some (.ref s), some (.ref r), some (.ref h), some (.int (0 + i)), none, some (.ref x), some (.int (tellR row f m)), v7, v8, v9]) ⟨_, _, _, rfl⟩ (fun j σ H9 hj h s9 => ?_) (fun σ H9 h s9 => ?_)
    · obtain ⟨_, _, _, rfl⟩ := h
      generalize nth (cut ns none (some 7)) (j : Int) = cell
      walk_at "go"
      refine forNS (fun b σ => ∃ v9, σ = [some (.ref s), some (.ref r), some (.ref h), some (.int (0 + i)), none, some (.ref x), some (.int (tellR row f m)), some (.int cell), some (.int (rsum row (cell / 7) b)), v9]) ⟨_, rfl⟩ (fun b σ H10 hb h s10 => ?_) (fun σ H10 h s10 => ?_)
      · obtain ⟨_, rfl⟩ := h
        have q0 : 0 ≤ (cell / 7 + (0 + (b : Int))) % (row.length : Int) := Int.emod_nonneg _ (by omega)
        have q1 : (cell / 7 + (0 + (b : Int))) % (row.length : Int) < row.length := Int.emod_lt_of_pos _ (by omega)
        walk_at "go"
        have e : rsum row (cell / 7) b + nth row ((cell / 7 + (0 + (b : Int))) % (row.length : Int)) = rsum row (cell / 7) (b + 1) := by
          rw [Int.zero_add, rsum]
        rw [e]
        have hbound := B.rbound (cell / 7) (b := b + 1) (by omega) (by omega)
        rw [decide_eq_false (show ¬ tellR row f m < rsum row (cell / 7) (b + 1) by omega)]
        walk_at "go"
        exact ⟨⟨_, rfl⟩, by walk_at "same"⟩
      · obtain ⟨_, rfl⟩ := h
        walk_at "go"
        exact ⟨⟨_, _, _, rfl⟩, by walk_at "same"⟩
    · obtain ⟨_, _, _, rfl⟩ := h
      have hx9 : H9 x = some (.ins cs.Around dx (fAround f m lw tp)) := by walk_at "at"
      have hlw9 : H9 lw = some (.lst (ls.map V.int)) := by walk_at "at"
      have htp9 : H9 tp = some (.lst (ts.map V.int)) := by walk_at "at"
      have hxt : x ≠ tp := ne_of hx9 htp9 (by intro z; cases z)
      have ntp3 : H3 tp = none := ntp
      walk_at "go"
      refine ⟨x, dx, lw, tp, r, f, m, ls, ts ++ [0], row, rfl, by walk_at "at", by walk_at "at", upd_same, by walk_at "at", by omega, by omega, by rw [List.length_append]; show ts.length + 1 ≤ 1000; omega, fun H12 s12 => ?_⟩
      walk_at "go"
      rw [decide_eq_false B.not_more]
      simp only [decide_true, Bool.not_true]
      walk_at "go"
      exact ⟨⟨_, _, _, _, _, _, rfl, fun _ => ⟨f, m, ls, ts, B, rfl⟩⟩, by walk_at "same"⟩
  · obtain ⟨v3, v5, v6, v7, v8, v9, rfl, hlast⟩ := h
    obtain ⟨f, m, ls, ts, B, rfl⟩ := hlast (by decide)
    have ht1 := turn1_length (ns := row) (by omega)
    have hcl1 : (cut row (some 1) none).length + (cut row none (some 1)).length = row.length := by
      have : (turn1 row).length = row.length := ht1
      unfold turn1 at this
      rw [List.length_append] at this
      exact this
    have hrow2 : IsRow (turn1 row) := by
      rw [turn1_eq (by omega)]
      intro y hy
      rcases List.mem_append.mp hy with q | q
      · exact hrow y (List.mem_of_mem_drop q)
      · exact hrow y (List.mem_of_mem_take q)
    walk_at "go"
    rename_i p3 np3
    refine ⟨p3, turn1 row, rfl, upd_same, hrow2, by omega, by omega, fun x dx lw tp f2 m2 ls2 ts2 H5 B2 nx nlw ntp nlt s5 hx hlw htp => ?_⟩
    have e0 := B2.f0; have e1 := B2.f1; have e2 := B2.m0; have e3 := B2.m1
    walk_at "go"
    rename_i p6 np6
    refine ⟨p6, turn1 row, f2, m2, rfl, upd_same, e0, e1, by omega, e3, by omega, fun H8 s8 => ?_⟩
    walk_at "go"
    rw [turn1_same (by omega) B B2]
    simp only [decide_true]
    exact k _
end Bs
namespace Bs
open PySem L2
def top (i : Nat) : Stmt := PySem.Challenge.pw_beststretch_k03_whole_around.main.body.getD i (.Pass ⟨0, 0, 0, 0⟩)
abbrev s_below : Stmt := top 13
theorem sc_below : FnScope N_below (["sums", "least", "lows", "told"] : List Str) (defScope s_below) := ⟨rfl, rfl, rfl, by decide +kernel, rfl, by decide +kernel, by decide +kernel⟩
abbrev s_summed : Stmt := top 9
theorem sc_summed : FnScope N_summed (["row"] : List Str) (defScope s_summed) := ⟨rfl, rfl, rfl, by decide +kernel, rfl, by decide +kernel, by decide +kernel⟩
abbrev s_Around_shows : Stmt := inClass (top 16) 1
theorem sc_Around_shows : FnScope N_Around_shows (["self", "row"] : List Str) (defScope s_Around_shows) := ⟨rfl, rfl, rfl, by decide +kernel, rfl, by decide +kernel, by decide +kernel⟩
abbrev s_l_sums : Stmt := top 22
theorem sc_l_sums : FnScope N_l_sums (["_law_row_here"] : List Str) (defScope s_l_sums) := ⟨rfl, rfl, rfl, by decide +kernel, rfl, by decide +kernel, by decide +kernel⟩
abbrev s_l_bounded : Stmt := top 24
theorem sc_l_bounded : FnScope N_l_bounded (["_law_row_here", "_law_least", "_law_lows", "_law_most"] : List Str) (defScope s_l_bounded) := ⟨rfl, rfl, rfl, by decide +kernel, rfl, by decide +kernel, by decide +kernel⟩
abbrev s_l_numbers : Stmt := top 23
theorem sc_l_numbers : FnScope N_l_numbers (["_law_found"] : List Str) (defScope s_l_numbers) := ⟨rfl, rfl, rfl, by decide +kernel, rfl, by decide +kernel, by decide +kernel⟩
abbrev s_l_sum : Stmt := top 25
theorem sc_l_sum : FnScope N_l_sum (["_law_row_here", "_law_first", "_law_many"] : List Str) (defScope s_l_sum) := ⟨rfl, rfl, rfl, by decide +kernel, rfl, by decide +kernel, by decide +kernel⟩
abbrev s_l_right_k03 : Stmt := top 26
theorem sc_l_right_k03 : FnScope N_l_right_k03 (["_law_row_here", "_law_found"] : List Str) (defScope s_l_right_k03) := ⟨rfl, rfl, rfl, by decide +kernel, rfl, by decide +kernel, by decide +kernel⟩
abbrev s_l_row : Stmt := top 21
theorem sc_l_row : FnScope N_l_row (["_law_script"] : List Str) (defScope s_l_row) := ⟨rfl, rfl, rfl, by decide +kernel, rfl, by decide +kernel, by decide +kernel⟩
abbrev s_Around_init : Stmt := inClass (top 16) 0
theorem sc_Around_init : FnScope N_Around_init (["self", "first", "many", "lows", "tops"] : List Str) (defScope s_Around_init) := ⟨rfl, rfl, rfl, by decide +kernel, rfl, by decide +kernel, by decide +kernel⟩
abbrev s_is_number : Stmt := top 6
theorem sc_is_number : FnScope N_is_number (["thing"] : List Str) (defScope s_is_number) := ⟨rfl, rfl, rfl, by decide +kernel, rfl, by decide +kernel, by decide +kernel⟩
abbrev s_asked_least : Stmt := top 8
theorem sc_asked_least : FnScope N_asked_least (["row", "least"] : List Str) (defScope s_asked_least) := ⟨rfl, rfl, rfl, by decide +kernel, rfl, by decide +kernel, by decide +kernel⟩
abbrev s_asked_row : Stmt := top 7
theorem sc_asked_row : FnScope N_asked_row (["row"] : List Str) (defScope s_asked_row) := ⟨rfl, rfl, rfl, by decide +kernel, rfl, by decide +kernel, by decide +kernel⟩
abbrev s_best_of : Stmt := top 18
theorem sc_best_of : FnScope N_best_of (["row", "least"] : List Str) (defScope s_best_of) := ⟨rfl, rfl, rfl, by decide +kernel, rfl, by decide +kernel, by decide +kernel⟩
abbrev s_around : Stmt := top 19
theorem sc_around : FnScope N_around (["row"] : List Str) (defScope s_around) := ⟨rfl, rfl, rfl, by decide +kernel, rfl, by decide +kernel, by decide +kernel⟩
abbrev s_law_k03 : Stmt := top 27
theorem sc_law_k03 : FnScope N_law_k03 (["_law_script"] : List Str) (defScope s_law_k03) := ⟨rfl, rfl, rfl, by decide +kernel, rfl, by decide +kernel, by decide +kernel⟩
structure Txt (K : PySem.W.Frag) (mg : Str → Option Value) (cs : Cs) where
  n_all : mg "all" = none
  n_bool : mg "bool" = none
  n_enumerate : mg "enumerate" = none
  n_int : mg "int" = none
  n_isinstance : mg "isinstance" = none
  n_len : mg "len" = none
  n_list : mg "list" = none
  n_range : mg "range" = none
  n_sum : mg "sum" = none
  k_FARTHEST : Tok
  g_FARTHEST : mg "FARTHEST" = some (.int 1000000 k_FARTHEST)
  g_Answer : mg "Answer" = some (.ref cs.Answer)
  g_Around : mg "Around" = some (.ref cs.Around)
  g_Best : mg "Best" = some (.ref cs.Best)
  g_Steep : mg "Steep" = some (.ref cs.Steep)
  cl_Around : Cls K cs.Around
  na_Around_first : NoAttr K cs.Around "first"
  na_Around_lows : NoAttr K cs.Around "lows"
  na_Around_many : NoAttr K cs.Around "many"
  na_Around_tops : NoAttr K cs.Around "tops"
  f_below : Addr
  d_below : FuncData
  F_below : Fun K "below" "below" s_below f_below d_below
  b_below : Binds K d_below (["sums", "least", "lows", "told"] : List Str) []
  g_below : mg "below" = some (.ref f_below)
  f_summed : Addr
  d_summed : FuncData
  F_summed : Fun K "summed" "summed" s_summed f_summed d_summed
  b_summed : Binds K d_summed (["row"] : List Str) []
  g_summed : mg "summed" = some (.ref f_summed)
  f_Around_shows : Addr
  d_Around_shows : FuncData
  F_Around_shows : Fun K "shows" "Around.shows" s_Around_shows f_Around_shows d_Around_shows
  b_Around_shows : Binds K d_Around_shows (["self", "row"] : List Str) []
  me_Around_shows : Meth K cs.Around "shows" f_Around_shows
  f_l_sums : Addr
  d_l_sums : FuncData
  F_l_sums : Fun K "_law_sums" "_law_sums" s_l_sums f_l_sums d_l_sums
  b_l_sums : Binds K d_l_sums (["_law_row_here"] : List Str) []
  g_l_sums : mg "_law_sums" = some (.ref f_l_sums)
  f_l_bounded : Addr
  d_l_bounded : FuncData
  F_l_bounded : Fun K "_law_bounded" "_law_bounded" s_l_bounded f_l_bounded d_l_bounded
  b_l_bounded : Binds K d_l_bounded (["_law_row_here", "_law_least", "_law_lows", "_law_most"] : List Str) []
  g_l_bounded : mg "_law_bounded" = some (.ref f_l_bounded)
  f_l_numbers : Addr
  d_l_numbers : FuncData
  F_l_numbers : Fun K "_law_numbers" "_law_numbers" s_l_numbers f_l_numbers d_l_numbers
  b_l_numbers : Binds K d_l_numbers (["_law_found"] : List Str) []
  g_l_numbers : mg "_law_numbers" = some (.ref f_l_numbers)
  f_l_sum : Addr
  d_l_sum : FuncData
  F_l_sum : Fun K "_law_sum" "_law_sum" s_l_sum f_l_sum d_l_sum
  b_l_sum : Binds K d_l_sum (["_law_row_here", "_law_first", "_law_many"] : List Str) []
  g_l_sum : mg "_law_sum" = some (.ref f_l_sum)
  f_l_right_k03 : Addr
  d_l_right_k03 : FuncData
  F_l_right_k03 : Fun K "_law_right" "_law_right" s_l_right_k03 f_l_right_k03 d_l_right_k03
  b_l_right_k03 : Binds K d_l_right_k03 (["_law_row_here", "_law_found"] : List Str) []
  g_l_right_k03 : mg "_law_right" = some (.ref f_l_right_k03)
  f_l_row : Addr
  d_l_row : FuncData
  F_l_row : Fun K "_law_row" "_law_row" s_l_row f_l_row d_l_row
  b_l_row : Binds K d_l_row (["_law_script"] : List Str) []
  g_l_row : mg "_law_row" = some (.ref f_l_row)
  f_Around_init : Addr
  d_Around_init : FuncData
  F_Around_init : Fun K "__init__" "Around.__init__" s_Around_init f_Around_init d_Around_init
  b_Around_init : Binds K d_Around_init (["self", "first", "many", "lows", "tops"] : List Str) []
  f_is_number : Addr
  d_is_number : FuncData
  F_is_number : Fun K "is_number" "is_number" s_is_number f_is_number d_is_number
  b_is_number : Binds K d_is_number (["thing"] : List Str) []
  g_is_number : mg "is_number" = some (.ref f_is_number)
  f_asked_least : Addr
  d_asked_least : FuncData
  F_asked_least : Fun K "asked_least" "asked_least" s_asked_least f_asked_least d_asked_least
  b_asked_least : Binds K d_asked_least (["row", "least"] : List Str) []
  g_asked_least : mg "asked_least" = some (.ref f_asked_least)
  f_asked_row : Addr
  d_asked_row : FuncData
  F_asked_row : Fun K "asked_row" "asked_row" s_asked_row f_asked_row d_asked_row
  b_asked_row : Binds K d_asked_row (["row"] : List Str) []
  g_asked_row : mg "asked_row" = some (.ref f_asked_row)
  f_best_of : Addr
  d_best_of : FuncData
  F_best_of : Fun K "best_of" "best_of" s_best_of f_best_of d_best_of
  b_best_of : Binds K d_best_of (["row", "least"] : List Str) []
  g_best_of : mg "best_of" = some (.ref f_best_of)
  f_around : Addr
  d_around : FuncData
  F_around : Fun K "around" "around" s_around f_around d_around
  b_around : Binds K d_around (["row"] : List Str) []
  g_around : mg "around" = some (.ref f_around)
  f_law_k03 : Addr
  d_law_k03 : FuncData
  F_law_k03 : Fun K "law" "law" s_law_k03 f_law_k03 d_law_k03
  b_law_k03 : Binds K d_law_k03 (["_law_script"] : List Str) []
  g_law_k03 : mg "law" = some (.ref f_law_k03)
  mk_Around : Mk K cs.Around f_Around_init
  xn : PySem.W.specialIn K (.builtin "object.__class__") "__get__" = some (some (.builtin "getset_descriptor.__get__"))
  xt : PySem.W.takesIn K (.builtin "object.__class__") = some true
  xa_Around : PySem.W.findIn K (.ref cs.Around) "__class__" = some (some (.builtin "object.__class__"))
  xm_Around : PySem.W.mroIn K cs.Around (.type "object") = some true
  xc_Answer : PySem.W.isClsIn K cs.Answer = true
  xy_Answer : PySem.W.typeIn K (.ref cs.Answer) = some (.type "type")
  xs_Around : PySem.W.subIn K (.ref cs.Around) (.ref cs.Around) = some true
  xk_Around_Answer : PySem.W.subIn K (.ref cs.Around) (.ref cs.Answer) = some true
  xc_Around : PySem.W.isClsIn K cs.Around = true
  xy_Around : PySem.W.typeIn K (.ref cs.Around) = some (.type "type")
  xk_Around_Around : PySem.W.subIn K (.ref cs.Around) (.ref cs.Around) = some true
  xc_Best : PySem.W.isClsIn K cs.Best = true
  xy_Best : PySem.W.typeIn K (.ref cs.Best) = some (.type "type")
  xk_Around_Best : PySem.W.subIn K (.ref cs.Around) (.ref cs.Best) = some false
  xc_Steep : PySem.W.isClsIn K cs.Steep = true
  xy_Steep : PySem.W.typeIn K (.ref cs.Steep) = some (.type "type")
  xk_Around_Steep : PySem.W.subIn K (.ref cs.Around) (.ref cs.Steep) = some false
section
variable {P : Program} {w : World} {K : PySem.W.Frag} {mg : Str → Option Value} {base : Heap} {cs : Cs}
theorem T_isi_Around (T : Txt K mg cs) : IsiC K cs.Around := ⟨T.cl_Around, T.xa_Around, T.xn, T.xt, T.xm_Around⟩
theorem T_kit_Around_Answer (T : Txt K mg cs) : PySem.W.kitOne K (.ref cs.Around) (.ref cs.Answer) = some true := kitOne_of T.xc_Answer T.xy_Answer T.xk_Around_Answer T.xs_Around
theorem T_kit_Around_Around (T : Txt K mg cs) : PySem.W.kitOne K (.ref cs.Around) (.ref cs.Around) = some true := kitOne_of T.xc_Around T.xy_Around T.xk_Around_Around T.xs_Around
theorem T_kit_Around_Best (T : Txt K mg cs) : PySem.W.kitOne K (.ref cs.Around) (.ref cs.Best) = some false := kitOne_of T.xc_Best T.xy_Best T.xk_Around_Best T.xs_Around
theorem T_kit_Around_Steep (T : Txt K mg cs) : PySem.W.kitOne K (.ref cs.Around) (.ref cs.Steep) = some false := kitOne_of T.xc_Steep T.xy_Steep T.xk_Around_Steep T.xs_Around
theorem T_okAround (T : Txt K mg cs) : OkAround K cs.Around := ⟨T.cl_Around, T.na_Around_first, T.na_Around_many, T.na_Around_lows, T.na_Around_tops⟩
theorem T_isK03 (T : Txt K mg cs) : IsK03 K cs := ⟨T_isi_Around T, T_kit_Around_Answer T, T_kit_Around_Around T, T_kit_Around_Best T, T_kit_Around_Steep T⟩
theorem ok_below (T : Txt K mg cs) : FnOk P w K mg base CX0 1 T.f_below T.d_below (["sums", "least", "lows", "told"] : List Str) (sp_below K cs) := by
  refine T.F_below.ok sc_below (fun vs H Q E h => len_below h) (fun cdv A outer s H vs Q E hr h => ⟨t_below K cs, ?_, pure_below  h⟩)
  have hu := hu_of hr
  exact (pss_cons (ps_if (pt_cmpR op_ne (pe_callB c_len (by rfl) T.n_len (by decide +kernel) (pa_cons (pv 2) pa_nil)) (pe_op op_subI (pe_callB c_len (by rfl) T.n_len (by decide +kernel) (pa_cons (pv 0) pa_nil)) (pv 1)) (nomark _)) (pss_one (ps_ret pe_bl)) pss_nil)
  (pss_cons (ps_for PassesOwn.never rfl (pi_enum (by rfl) T.n_enumerate (pa_cons (pv 2) pa_nil)) (pg_tup (by rfl) (pgs_cons (pg_name (i := 4) sc_below.nd rfl (Or.inl rfl)) (pgs_cons (pg_name (i := 5) sc_below.nd rfl (Or.inl rfl)) pgs_nil))) (pss_one (ps_if (PW.pt (pw_or (pt_cmpR op_gtI (pv 5) (pe_ix ix_list (pv 0) (pv 4) (fun _ _ => rfl)) (nomark _)) (pw_or (PW.pt (pw_and (pt_cmpR op_gtI (pv 4) pe_int (nomark _)) (pw_and1 (pt_cmpR op_gtI (pv 5) (pe_ix ix_list (pv 2) (pe_op op_subI (pv 4) pe_int) (fun _ _ => rfl)) (nomark _))))) (pw_or1 (pt_cmpR op_gtI (pe_op op_subI (pe_ix ix_list (pv 0) (pe_op op_addI (pv 4) (pv 1)) (fun _ _ => rfl)) (pv 5)) (pv 3) (nomark _)))))) (pss_one (ps_ret pe_bl)) pss_nil)))
  (pss_one (ps_ret pe_bl))))
theorem ok_summed (T : Txt K mg cs) : FnOk P w K mg base CX0 1 T.f_summed T.d_summed (["row"] : List Str) (sp_summed K cs) := by
  refine T.F_summed.ok sc_summed (fun vs H Q E h => len_summed h) (fun cdv A outer s H vs Q E hr h => ⟨t_summed K cs, ?_, pure_summed  h⟩)
  have hu := hu_of hr
  exact (pss_cons (ps_set (i := 1) sc_summed.nd rfl (Or.inl rfl) (pe_lst (pa_cons pe_int pa_nil)))
  (pss_cons (ps_for PassesOwn.never rfl (pi_list (pv 0)) (pg_name (i := 2) sc_summed.nd rfl (Or.inl rfl)) (pss_one (ps_expr (pe_bm PySem.F.plainAttrs_list PySem.F.slot_list_append PySem.F.type_list_append mt_append (pv 1) (pa_cons (pe_op op_addI (pe_ix ix_list (pv 1) (pe_un un_negI pe_int) (fun _ _ => rfl)) (pv 2)) pa_nil)))))
  (pss_one (ps_ret (pv 1)))))
theorem ok_Around_shows (T : Txt K mg cs) : FnOk P w K mg base CX0 2 T.f_Around_shows T.d_Around_shows (["self", "row"] : List Str) (sp_Around_shows K cs) := by
  refine T.F_Around_shows.ok sc_Around_shows (fun vs H Q E h => len_Around_shows h) (fun cdv A outer s H vs Q E hr h => ⟨t_Around_shows K cs, ?_, pure_Around_shows (T_okAround T) h⟩)
  have hu := hu_of hr
  exact (pss_cons (ps_if (PW.pt (pw_or (pt_not (pt_chain op_leI op_ltI pe_int (pe_fld (pv 0) rfl) (pe_callB c_len (by rfl) T.n_len (by decide +kernel) (pa_cons (pv 1) pa_nil)))) (pw_or1 (pt_not (pt_chain op_leI op_leI pe_int (pe_fld (pv 0) rfl) (pe_callB c_len (by rfl) T.n_len (by decide +kernel) (pa_cons (pv 1) pa_nil))))))) (pss_one (ps_ret pe_bl)) pss_nil)
  (pss_cons (ps_set (i := 2) sc_Around_shows.nd rfl (Or.inl rfl) (pe_callB (cr_sum rfl) (by rfl) T.n_sum (by decide +kernel) (pa_cons (pe_slice sl_list (pe_op op_cat (pv 1) (pv 1)) (po_some (pe_fld (pv 0) rfl)) (po_some (pe_op op_addI (pe_fld (pv 0) rfl) (pe_fld (pv 0) rfl)))) pa_nil)))
  (pss_cons (ps_setLc (i := 3) (own := [("one", 4)]) rfl sc_Around_shows.nd rfl rfl (sw_true rfl rfl rfl (by decide +kernel)) (pi_list (pe_slice sl_list (pv 1) (po_some pe_int) (po_some (pe_un un_negI pe_int)))) (blkOk_by (own := [("one", 4)]) (N := N_Around_shows) (sc := defScope s_Around_shows) (by decide +kernel)) (fun _ _ _ _ _ => (pg_name (i := 4) sc_Around_shows.nd rfl (Or.inl rfl))) (fun _ _ _ _ _ => pts_nil) (fun _ _ _ _ _ => (pe_un un_negI (pv 4))))
  (pss_cons (ps_if (PW.pt (pw_and (pt_cmpR op_gtI (pe_callB c_len (by rfl) T.n_len (by decide +kernel) (pa_cons (pv 1) pa_nil)) pe_int (nomark _)) (pw_and1 (pt_not (pt_val (pe_call (ok_below T) (hr.mono (by decide)) rfl T.g_below T.F_below.kp T.b_below .nil pass0 (pa_cons (pe_call (ok_summed T) (hr.mono (by decide)) rfl T.g_summed T.F_summed.kp T.b_summed .nil pass0 (pa_cons (pv 3) pa_nil)) (pa_cons pe_int (pa_cons (pe_fld (pv 0) rfl) (pa_cons (pe_op op_subI (pv 2) (pe_callB (cr_sum rfl) (by rfl) T.n_sum (by decide +kernel) (pa_cons (pv 1) pa_nil))) pa_nil)))))))))) (pss_one (ps_ret pe_bl)) pss_nil)
  (pss_one (ps_ret (pe_and (pe_call (ok_below T) (hr.mono (by decide)) rfl T.g_below T.F_below.kp T.b_below .nil pass0 (pa_cons (pe_call (ok_summed T) (hr.mono (by decide)) rfl T.g_summed T.F_summed.kp T.b_summed .nil pass0 (pa_cons (pv 1) pa_nil)) (pa_cons pe_int (pa_cons (pe_fld (pv 0) rfl) (pa_cons (pv 2) pa_nil))))) (pe_one (pe_or (pe_cmpR op_gtI (pe_callB c_len (by rfl) T.n_len (by decide +kernel) (pa_cons (pv 1) pa_nil)) pe_int (nomark _)) (pe_one (pe_cmpR (op_eqD hr.units) (pe_fld (pv 0) rfl) (pe_lst pa_nil) (nomark _))))))))))))
theorem ok_l_sums (T : Txt K mg cs) : FnOk P w K mg base CX0 1 T.f_l_sums T.d_l_sums (["_law_row_here"] : List Str) (sp_l_sums K cs) := by
  refine T.F_l_sums.ok sc_l_sums (fun vs H Q E h => len_l_sums h) (fun cdv A outer s H vs Q E hr h => ⟨t_l_sums K cs, ?_, pure_l_sums  h⟩)
  have hu := hu_of hr
  exact (pss_cons (ps_set (i := 1) sc_l_sums.nd rfl (Or.inl rfl) (pe_lst (pa_cons pe_int pa_nil)))
  (pss_cons (ps_for PassesOwn.never rfl (pi_list (pv 0)) (pg_name (i := 2) sc_l_sums.nd rfl (Or.inl rfl)) (pss_one (ps_expr (pe_bm PySem.F.plainAttrs_list PySem.F.slot_list_append PySem.F.type_list_append mt_append (pv 1) (pa_cons (pe_op op_addI (pe_ix ix_list (pv 1) (pe_un un_negI pe_int) (fun _ _ => rfl)) (pv 2)) pa_nil)))))
  (pss_one (ps_ret (pv 1)))))
theorem ok_l_bounded (T : Txt K mg cs) : FnOk P w K mg base CX0 2 T.f_l_bounded T.d_l_bounded (["_law_row_here", "_law_least", "_law_lows", "_law_most"] : List Str) (sp_l_bounded K cs) := by
  refine T.F_l_bounded.ok sc_l_bounded (fun vs H Q E h => len_l_bounded h) (fun cdv A outer s H vs Q E hr h => ⟨t_l_bounded K cs, ?_, pure_l_bounded  h⟩)
  have hu := hu_of hr
  exact (pss_cons (ps_set (i := 4) sc_l_bounded.nd rfl (Or.inl rfl) (pe_call (ok_l_sums T) (hr.mono (by decide)) rfl T.g_l_sums T.F_l_sums.kp T.b_l_sums .nil pass0 (pa_cons (pv 0) pa_nil)))
  (pss_cons (ps_if (pt_cmpR op_ne (pe_callB c_len (by rfl) T.n_len (by decide +kernel) (pa_cons (pv 2) pa_nil)) (pe_op op_subI (pe_op op_addI (pe_callB c_len (by rfl) T.n_len (by decide +kernel) (pa_cons (pv 0) pa_nil)) pe_int) (pv 1)) (nomark _)) (pss_one (ps_ret pe_bl)) pss_nil)
  (pss_cons (ps_for PassesOwn.never rfl (pi_range1 (by rfl) T.n_range (pa_cons (pe_callB c_len (by rfl) T.n_len (by decide +kernel) (pa_cons (pv 2) pa_nil)) pa_nil)) (pg_name (i := 5) sc_l_bounded.nd rfl (Or.inl rfl)) (pss_cons (ps_if (PW.pt (pw_or (pt_cmpR op_gtI (pe_ix ix_list (pv 2) (pv 5) (fun _ _ => rfl)) (pe_ix ix_list (pv 4) (pv 5) (fun _ _ => rfl)) (nomark _)) (pw_or1 (PW.pt (pw_and (pt_cmpR op_gtI (pv 5) pe_int (nomark _)) (pw_and1 (pt_cmpR op_gtI (pe_ix ix_list (pv 2) (pv 5) (fun _ _ => rfl)) (pe_ix ix_list (pv 2) (pe_op op_subI (pv 5) pe_int) (fun _ _ => rfl)) (nomark _)))))))) (pss_one (ps_ret pe_bl)) pss_nil)
  (pss_one (ps_if (pt_cmpR op_gtI (pe_op op_subI (pe_ix ix_list (pv 4) (pe_op op_addI (pv 5) (pv 1)) (fun _ _ => rfl)) (pe_ix ix_list (pv 2) (pv 5) (fun _ _ => rfl))) (pv 3) (nomark _)) (pss_one (ps_ret pe_bl)) pss_nil))))
  (pss_one (ps_ret pe_bl)))))
theorem ok_l_numbers (T : Txt K mg cs) : FnOk P w K mg base CX0 1 T.f_l_numbers T.d_l_numbers (["_law_found"] : List Str) (sp_l_numbers K cs) := by
  refine T.F_l_numbers.ok sc_l_numbers (fun vs H Q E h => len_l_numbers h) (fun cdv A outer s H vs Q E hr h => ⟨t_l_numbers K cs, ?_, pure_l_numbers  h⟩)
  have hu := hu_of hr
  exact (pss_cons (ps_if (pt_not (pt_val (pe_callB call_isi (by rfl) T.n_isinstance (by decide +kernel) (pa_cons (pv 0) (pa_cons (pe_bltn (by rfl) T.n_list (by decide +kernel) rfl) pa_nil))))) (pss_one (ps_ret pe_bl)) pss_nil)
  (pss_one (ps_ret (pe_callB (cr_all rfl) (by rfl) T.n_all (by decide +kernel) (pa_cons (pe_lc (own := [("_law_one", 1)]) rfl sc_l_numbers.nd (pi_list (pv 0)) (blkOk_by (own := [("_law_one", 1)]) (N := N_l_numbers) (sc := defScope s_l_numbers) (by decide +kernel)) (fun _ _ _ _ _ => (pg_name (i := 1) sc_l_numbers.nd rfl (Or.inl rfl))) (fun _ _ _ _ _ => pts_nil) (fun _ _ _ _ _ => (pe_and (pe_callB call_isi (by rfl) T.n_isinstance (by decide +kernel) (pa_cons (pv 1) (pa_cons (pe_bltn (by rfl) T.n_int (by decide +kernel) rfl) pa_nil))) (pe_one (pe_not (pe_callB call_isi (by rfl) T.n_isinstance (by decide +kernel) (pa_cons (pv 1) (pa_cons (pe_bltn (by rfl) T.n_bool (by decide +kernel) rfl) pa_nil)))))))) pa_nil)))))
theorem ok_l_sum (T : Txt K mg cs) : FnOk P w K mg base CX0 1 T.f_l_sum T.d_l_sum (["_law_row_here", "_law_first", "_law_many"] : List Str) (sp_l_sum K cs) := by
  refine T.F_l_sum.ok sc_l_sum (fun vs H Q E h => len_l_sum h) (fun cdv A outer s H vs Q E hr h => ⟨t_l_sum K cs, ?_, pure_l_sum  h⟩)
  have hu := hu_of hr
  exact (pss_one (ps_ret (pe_callB (cr_sum rfl) (by rfl) T.n_sum (by decide +kernel) (pa_cons (pe_lc (own := [("_law_at", 3)]) rfl sc_l_sum.nd (pi_range1 (by rfl) T.n_range (pa_cons (pv 2) pa_nil)) (blkOk_by (own := [("_law_at", 3)]) (N := N_l_sum) (sc := defScope s_l_sum) (by decide +kernel)) (fun _ _ _ _ _ => (pg_name (i := 3) sc_l_sum.nd rfl (Or.inl rfl))) (fun _ _ _ _ _ => pts_nil) (fun _ _ _ _ _ => (pe_ix ix_list (pv 0) (pe_op op_modI (pe_op op_addI (pv 1) (pv 3)) (pe_callB c_len (by rfl) T.n_len (by decide +kernel) (pa_cons (pv 0) pa_nil))) (fun _ _ => rfl)))) pa_nil))))
theorem ok_l_right_k03 (T : Txt K mg cs) : FnOk P w K mg base CX0 3 T.f_l_right_k03 T.d_l_right_k03 (["_law_row_here", "_law_found"] : List Str) (sp_l_right_k03 K cs) := by
  refine T.F_l_right_k03.ok sc_l_right_k03 (fun vs H Q E h => len_l_right_k03 h) (fun cdv A outer s H vs Q E hr h => ⟨t_l_right_k03 K cs, ?_, pure_l_right_k03 (T_okAround T) (T_isK03 T) h⟩)
  have hu := hu_of hr
  exact (pss_cons (ps_if (PW.pt (pw_or (pt_not (pt_val (pe_callB call_isi (by rfl) T.n_isinstance (by decide +kernel) (pa_cons (pv 1) (pa_cons (pe_glob rfl T.g_Answer rfl) pa_nil))))) (pw_or (pt_not (pt_val (pe_callB call_isi (by rfl) T.n_isinstance (by decide +kernel) (pa_cons (pv 1) (pa_cons (pe_glob rfl T.g_Around rfl) pa_nil))))) (pw_or1 (pt_val (pe_callB call_isi (by rfl) T.n_isinstance (by decide +kernel) (pa_cons (pv 1) (pa_cons (pe_glob rfl T.g_Best rfl) pa_nil)))))))) (pss_one (ps_ret pe_bl)) pss_nil)
  (pss_cons (ps_if (PW.pt (pw_or (pt_val (pe_callB call_isi (by rfl) T.n_isinstance (by decide +kernel) (pa_cons (pv 1) (pa_cons (pe_glob rfl T.g_Steep rfl) pa_nil)))) (pw_or1 (pt_not (pt_val (pe_call (ok_l_numbers T) (hr.mono (by decide)) rfl T.g_l_numbers T.F_l_numbers.kp T.b_l_numbers .nil pass0 (pa_cons (pe_lst (pa_cons (pe_fld (pv 1) rfl) (pa_cons (pe_fld (pv 1) rfl) pa_nil))) pa_nil))))))) (pss_one (ps_ret pe_bl)) pss_nil)
  (pss_cons (ps_if (PW.pt (pw_or (pt_not (pt_val (pe_call (ok_l_numbers T) (hr.mono (by decide)) rfl T.g_l_numbers T.F_l_numbers.kp T.b_l_numbers .nil pass0 (pa_cons (pe_fld (pv 1) rfl) pa_nil)))) (pw_or1 (pt_not (pt_val (pe_call (ok_l_numbers T) (hr.mono (by decide)) rfl T.g_l_numbers T.F_l_numbers.kp T.b_l_numbers .nil pass0 (pa_cons (pe_fld (pv 1) rfl) pa_nil))))))) (pss_one (ps_ret pe_bl)) pss_nil)
  (pss_cons (ps_if (PW.pt (pw_or (pt_not (pt_chain op_leI op_ltI pe_int (pe_fld (pv 1) rfl) (pe_callB c_len (by rfl) T.n_len (by decide +kernel) (pa_cons (pv 0) pa_nil)))) (pw_or1 (pt_not (pt_chain op_leI op_leI pe_int (pe_fld (pv 1) rfl) (pe_callB c_len (by rfl) T.n_len (by decide +kernel) (pa_cons (pv 0) pa_nil))))))) (pss_one (ps_ret pe_bl)) pss_nil)
  (pss_cons (ps_set (i := 2) sc_l_right_k03.nd rfl (Or.inl rfl) (pe_call (ok_l_sum T) (hr.mono (by decide)) rfl T.g_l_sum T.F_l_sum.kp T.b_l_sum .nil pass0 (pa_cons (pv 0) (pa_cons (pe_fld (pv 1) rfl) (pa_cons (pe_fld (pv 1) rfl) pa_nil)))))
  (pss_cons (ps_if (PW.pt (pw_and (pt_cmpR op_ltI (pe_callB c_len (by rfl) T.n_len (by decide +kernel) (pa_cons (pv 0) pa_nil)) pe_int (nomark _)) (pw_and1 (pt_cmpR (op_neD hr.units) (pe_fld (pv 1) rfl) (pe_lst pa_nil) (nomark _))))) (pss_one (ps_ret pe_bl)) pss_nil)
  (pss_cons (ps_setLc (i := 3) (own := [("_law_one", 4)]) rfl sc_l_right_k03.nd rfl rfl (sw_true rfl rfl rfl (by decide +kernel)) (pi_list (pe_slice sl_list (pv 0) (po_some pe_int) (po_some (pe_un un_negI pe_int)))) (blkOk_by (own := [("_law_one", 4)]) (N := N_l_right_k03) (sc := defScope s_l_right_k03) (by decide +kernel)) (fun _ _ _ _ _ => (pg_name (i := 4) sc_l_right_k03.nd rfl (Or.inl rfl))) (fun _ _ _ _ _ => pts_nil) (fun _ _ _ _ _ => (pe_un un_negI (pv 4))))
  (pss_cons (ps_if (PW.pt (pw_and (pt_cmpR op_gtI (pe_callB c_len (by rfl) T.n_len (by decide +kernel) (pa_cons (pv 0) pa_nil)) pe_int (nomark _)) (pw_and1 (pt_not (pt_val (pe_call (ok_l_bounded T) (hr.mono (by decide)) rfl T.g_l_bounded T.F_l_bounded.kp T.b_l_bounded .nil pass0 (pa_cons (pv 3) (pa_cons pe_int (pa_cons (pe_fld (pv 1) rfl) (pa_cons (pe_op op_subI (pv 2) (pe_callB (cr_sum rfl) (by rfl) T.n_sum (by decide +kernel) (pa_cons (pv 0) pa_nil))) pa_nil)))))))))) (pss_one (ps_ret pe_bl)) pss_nil)
  (pss_one (ps_ret (pe_call (ok_l_bounded T) (hr.mono (by decide)) rfl T.g_l_bounded T.F_l_bounded.kp T.b_l_bounded .nil pass0 (pa_cons (pv 0) (pa_cons pe_int (pa_cons (pe_fld (pv 1) rfl) (pa_cons (pv 2) pa_nil)))))))))))))))
theorem ok_l_row (T : Txt K mg cs) : FnOk P w K mg base CX0 1 T.f_l_row T.d_l_row (["_law_script"] : List Str) (sp_l_row K cs) := by
  refine T.F_l_row.ok sc_l_row (fun vs H Q E h => len_l_row h) (fun cdv A outer s H vs Q E hr h => ⟨t_l_row K cs, ?_, pure_l_row  h⟩)
  have hu := hu_of hr
  exact (pss_cons (ps_set (i := 1) sc_l_row.nd rfl (Or.inr rfl) (pe_ix ix_tup (pe_tup (pa_cons pe_int (pa_cons pe_int (pa_cons pe_int (pa_cons pe_int pa_nil))))) (pe_op op_modI (pe_callB (cr_sum rfl) (by rfl) T.n_sum (by decide +kernel) (pa_cons (pv 0) pa_nil)) pe_int) (fun _ _ => rfl)))
  (pss_one (ps_ret (pe_lc (own := [("_law_cell", 2)]) rfl sc_l_row.nd (pi_list (pv 0)) (blkOk_by (own := [("_law_cell", 2)]) (N := N_l_row) (sc := defScope s_l_row) (by decide +kernel)) (fun _ _ _ _ _ => (pg_name (i := 2) sc_l_row.nd rfl (Or.inl rfl))) (fun _ _ _ _ _ => pts_nil) (fun _ _ _ _ _ => (pe_op op_subI (pe_op op_modI (pv 2) (pe_op op_addI (pe_op op_mulI pe_int (pv 1)) pe_int)) (pv 1)))))))
theorem ok_Around_init (T : Txt K mg cs) : FnOk P w K mg base CX0 1 T.f_Around_init T.d_Around_init (["self", "first", "many", "lows", "tops"] : List Str) (sp_Around_init K cs) := by
  refine T.F_Around_init.ok sc_Around_init (fun vs H Q E h => len_Around_init h) (fun cdv A outer s H vs Q E hr h => ⟨t_Around_init K cs, ?_, pure_Around_init (T_okAround T) h⟩)
  have hu := hu_of hr
  exact (pss_cons (ps_fld (pv 0) (pv 1) rfl)
  (pss_cons (ps_fld (pv 0) (pv 2) rfl)
  (pss_cons (ps_fld (pv 0) (pe_callTy c_list (by rfl) T.n_list (by decide +kernel) (pa_cons (pv 3) pa_nil)) rfl)
  (pss_one (ps_fld (pv 0) (pe_callTy c_list (by rfl) T.n_list (by decide +kernel) (pa_cons (pv 4) pa_nil)) rfl)))))
theorem ok_is_number (T : Txt K mg cs) : FnOk P w K mg base CX0 1 T.f_is_number T.d_is_number (["thing"] : List Str) (sp_is_number K cs) := by
  refine T.F_is_number.ok sc_is_number (fun vs H Q E h => len_is_number h) (fun cdv A outer s H vs Q E hr h => ⟨t_is_number K cs, ?_, pure_is_number  h⟩)
  have hu := hu_of hr
  exact (pss_one (ps_ret (pe_and (pe_callB call_isi (by rfl) T.n_isinstance (by decide +kernel) (pa_cons (pv 0) (pa_cons (pe_bltn (by rfl) T.n_int (by decide +kernel) rfl) pa_nil))) (pe_one (pe_not (pe_callB call_isi (by rfl) T.n_isinstance (by decide +kernel) (pa_cons (pv 0) (pa_cons (pe_bltn (by rfl) T.n_bool (by decide +kernel) rfl) pa_nil))))))))
theorem ok_asked_least (T : Txt K mg cs) : FnOk P w K mg base CX0 2 T.f_asked_least T.d_asked_least (["row", "least"] : List Str) (sp_asked_least K cs) := by
  refine T.F_asked_least.ok sc_asked_least (fun vs H Q E h => len_asked_least h) (fun cdv A outer s H vs Q E hr h => ⟨t_asked_least K cs, ?_, pure_asked_least  h⟩)
  have hu := hu_of hr
  exact (pss_one (ps_if (PW.pt (pw_or (pt_not (pt_val (pe_call (ok_is_number T) (hr.mono (by decide)) rfl T.g_is_number T.F_is_number.kp T.b_is_number .nil pass0 (pa_cons (pv 1) pa_nil)))) (pw_or1 (pt_not (pt_chain op_leI op_leI pe_int (pv 1) (pe_callB c_len (by rfl) T.n_len (by decide +kernel) (pa_cons (pv 0) pa_nil))))))) (pss_one ps_never) pss_nil))
theorem ok_asked_row (T : Txt K mg cs) : FnOk P w K mg base CX0 2 T.f_asked_row T.d_asked_row (["row"] : List Str) (sp_asked_row K cs) := by
  refine T.F_asked_row.ok sc_asked_row (fun vs H Q E h => len_asked_row h) (fun cdv A outer s H vs Q E hr h => ⟨t_asked_row K cs, ?_, pure_asked_row  h⟩)
  have hu := hu_of hr
  exact (pss_one (ps_if (PW.pt (pw_or (pt_not (pt_val (pe_callB call_isi (by rfl) T.n_isinstance (by decide +kernel) (pa_cons (pv 0) (pa_cons (pe_bltn (by rfl) T.n_list (by decide +kernel) rfl) pa_nil))))) (pw_or1 (pt_not (pt_val (pe_callB (cr_all rfl) (by rfl) T.n_all (by decide +kernel) (pa_cons (pe_lc (own := [("one", 1)]) rfl sc_asked_row.nd (pi_list (pv 0)) (blkOk_by (own := [("one", 1)]) (N := N_asked_row) (sc := defScope s_asked_row) (by decide +kernel)) (fun _ _ _ _ _ => (pg_name (i := 1) sc_asked_row.nd rfl (Or.inl rfl))) (fun _ _ _ _ _ => pts_nil) (fun _ _ _ _ _ => (pe_and (pe_call (ok_is_number T) (hr.mono (by decide)) rfl T.g_is_number T.F_is_number.kp T.b_is_number .nil pass0 (pa_cons (pv 1) pa_nil)) (pe_one (pe_chain op_leI op_leI (pe_un un_negI (pe_glob rfl T.g_FARTHEST ⟨_, rfl⟩)) (pv 1) (pe_glob rfl T.g_FARTHEST ⟨_, rfl⟩)))))) pa_nil))))))) (pss_one ps_never) pss_nil))
theorem ok_best_of (T : Txt K mg cs) : FnOk P w K mg base CX0 2 T.f_best_of T.d_best_of (["row", "least"] : List Str) (sp_best_of K cs) := by
  refine T.F_best_of.ok sc_best_of (fun vs H Q E h => len_best_of h) (fun cdv A outer s H vs Q E hr h => ⟨t_best_of K cs, ?_, pure_best_of  h⟩)
  have hu := hu_of hr
  exact (pss_cons (ps_set (i := 2) sc_best_of.nd rfl (Or.inl rfl) (pe_call (ok_summed T) (hr.mono (by decide)) rfl T.g_summed T.F_summed.kp T.b_summed .nil pass0 (pa_cons (pv 0) pa_nil)))
  (pss_cons (ps_set (i := 3) sc_best_of.nd rfl (Or.inl rfl) (pe_lst pa_nil))
  (pss_cons (ps_set (i := 4) sc_best_of.nd rfl (Or.inl rfl) pe_int)
  (pss_cons (ps_set (i := 5) sc_best_of.nd rfl (Or.inl rfl) pe_int)
  (pss_cons (ps_set (i := 6) sc_best_of.nd rfl (Or.inl rfl) (pv 1))
  (pss_cons (ps_for PassesOwn.never rfl (pi_range1 (by rfl) T.n_range (pa_cons (pe_op op_addI (pe_op op_subI (pe_callB c_len (by rfl) T.n_len (by decide +kernel) (pa_cons (pv 0) pa_nil)) (pv 1)) pe_int) pa_nil)) (pg_name (i := 7) sc_best_of.nd rfl (Or.inl rfl)) (pss_cons (ps_if (pt_cmpR op_ltI (pe_ix ix_list (pv 2) (pv 7) (fun _ _ => rfl)) (pe_ix ix_list (pv 2) (pv 4) (fun _ _ => rfl)) (nomark _)) (pss_one (ps_set (i := 4) sc_best_of.nd rfl (Or.inl rfl) (pv 7))) pss_nil)
  (pss_cons (ps_expr (pe_bm PySem.F.plainAttrs_list PySem.F.slot_list_append PySem.F.type_list_append mt_append (pv 3) (pa_cons (pe_ix ix_list (pv 2) (pv 4) (fun _ _ => rfl)) pa_nil)))
  (pss_one (ps_if (pt_cmpR op_gtI (pe_op op_subI (pe_ix ix_list (pv 2) (pe_op op_addI (pv 7) (pv 1)) (fun _ _ => rfl)) (pe_ix ix_list (pv 2) (pv 4) (fun _ _ => rfl))) (pe_op op_subI (pe_ix ix_list (pv 2) (pe_op op_addI (pv 5) (pv 6)) (fun _ _ => rfl)) (pe_ix ix_list (pv 2) (pv 5) (fun _ _ => rfl))) (nomark _)) (pss_cons (ps_set (i := 5) sc_best_of.nd rfl (Or.inl rfl) (pv 4))
  (pss_one (ps_set (i := 6) sc_best_of.nd rfl (Or.inl rfl) (pe_op op_subI (pe_op op_addI (pv 7) (pv 1)) (pv 4))))) pss_nil)))))
  (pss_one (ps_ret (pe_tup (pa_cons (pv 5) (pa_cons (pv 6) (pa_cons (pv 3) pa_nil))))))))))))
theorem ok_around (T : Txt K mg cs) : FnOk P w K mg base CX0 3 T.f_around T.d_around (["row"] : List Str) (sp_around K cs) := by
  refine T.F_around.ok sc_around (fun vs H Q E h => len_around h) (fun cdv A outer s H vs Q E hr h => ⟨t_around K cs, ?_, pure_around  h⟩)
  have hu := hu_of hr
  exact (pss_cons (ps_expr (pe_call (ok_asked_row T) (hr.mono (by decide)) rfl T.g_asked_row T.F_asked_row.kp T.b_asked_row .nil pass0 (pa_cons (pv 0) pa_nil)))
  (pss_cons (ps_expr (pe_call (ok_asked_least T) (hr.mono (by decide)) rfl T.g_asked_least T.F_asked_least.kp T.b_asked_least .nil pass0 (pa_cons (pv 0) (pa_cons pe_int pa_nil))))
  (pss_cons (ps_asg (pe_call (ok_best_of T) (hr.mono (by decide)) rfl T.g_best_of T.F_best_of.kp T.b_best_of .nil pass0 (pa_cons (pv 0) (pa_cons pe_int pa_nil))) (pg_tup (by rfl) (pgs_cons (pg_name (i := 3) sc_around.nd rfl (Or.inl rfl)) (pgs_cons (pg_name (i := 4) sc_around.nd rfl (Or.inl rfl)) (pgs_cons (pg_name (i := 5) sc_around.nd rfl (Or.inl rfl)) pgs_nil)))))
  (pss_cons (ps_set (i := 1) sc_around.nd rfl (Or.inl rfl) (pe_callB (cr_sum rfl) (by rfl) T.n_sum (by decide +kernel) (pa_cons (pe_slice sl_list (pv 0) (po_some (pv 3)) (po_some (pe_op op_addI (pv 3) (pv 4)))) pa_nil)))
  (pss_cons (ps_set (i := 2) sc_around.nd rfl (Or.inl rfl) (pe_lst pa_nil))
  (pss_cons (ps_if (pt_cmpR op_gtI (pe_callB c_len (by rfl) T.n_len (by decide +kernel) (pa_cons (pv 0) pa_nil)) pe_int (nomark _)) (pss_cons (ps_setLc (i := 6) (own := [("one", 9)]) rfl sc_around.nd rfl rfl (sw_true rfl rfl rfl (by decide +kernel)) (pi_list (pe_slice sl_list (pv 0) (po_some pe_int) (po_some (pe_un un_negI pe_int)))) (blkOk_by (own := [("one", 9)]) (N := N_around) (sc := defScope s_around) (by decide +kernel)) (fun _ _ _ _ _ => (pg_name (i := 9) sc_around.nd rfl (Or.inl rfl))) (fun _ _ _ _ _ => pts_nil) (fun _ _ _ _ _ => (pe_un un_negI (pv 9))))
  (pss_cons (ps_asg (pe_call (ok_best_of T) (hr.mono (by decide)) rfl T.g_best_of T.F_best_of.kp T.b_best_of .nil pass0 (pa_cons (pv 6) (pa_cons pe_int pa_nil))) (pg_tup (by rfl) (pgs_cons (pg_name (i := 7) sc_around.nd rfl (Or.inl rfl)) (pgs_cons (pg_name (i := 8) sc_around.nd rfl (Or.inl rfl)) (pgs_cons (pg_name (i := 2) sc_around.nd rfl (Or.inl rfl)) pgs_nil)))))
  (pss_one (ps_if (pt_cmpR op_gtI (pe_op op_addI (pe_callB (cr_sum rfl) (by rfl) T.n_sum (by decide +kernel) (pa_cons (pv 0) pa_nil)) (pe_callB (cr_sum rfl) (by rfl) T.n_sum (by decide +kernel) (pa_cons (pe_slice sl_list (pv 6) (po_some (pv 7)) (po_some (pe_op op_addI (pv 7) (pv 8)))) pa_nil))) (pv 1) (nomark _)) (pss_cons (ps_set (i := 3) sc_around.nd rfl (Or.inl rfl) (pe_op op_addI (pe_op op_addI (pv 7) pe_int) (pv 8)))
  (pss_one (ps_set (i := 4) sc_around.nd rfl (Or.inl rfl) (pe_op op_subI (pe_callB c_len (by rfl) T.n_len (by decide +kernel) (pa_cons (pv 0) pa_nil)) (pv 8))))) pss_nil)))) pss_nil)
  (pss_one (ps_ret (pe_make T.mk_Around (ok_Around_init T) (hr.mono (by decide)) rfl T.g_Around T.b_Around_init .nil pass0 (pa_cons (pv 3) (pa_cons (pv 4) (pa_cons (pv 5) (pa_cons (pv 2) pa_nil)))))))))))))
theorem ok_law_k03 (T : Txt K mg cs) : FnOk P w K mg base CX0 4 T.f_law_k03 T.d_law_k03 (["_law_script"] : List Str) (sp_law_k03 K cs) := by
  refine T.F_law_k03.ok sc_law_k03 (fun vs H Q E h => len_law_k03 h) (fun cdv A outer s H vs Q E hr h => ⟨t_law_k03 K cs, ?_, pure_law_k03 (T_okAround T) h⟩)
  have hu := hu_of hr
  exact (pss_cons (ps_set (i := 1) sc_law_k03.nd rfl (Or.inl rfl) (pe_call (ok_l_row T) (hr.mono (by decide)) rfl T.g_l_row T.F_l_row.kp T.b_l_row .nil pass0 (pa_cons (pv 0) pa_nil)))
  (pss_cons (ps_if (pt_cmpR (op_eqD hr.units) (pv 1) (pe_lst pa_nil) (nomark _)) (pss_one (ps_ret pe_bl)) pss_nil)
  (pss_cons (ps_set (i := 2) sc_law_k03.nd rfl (Or.inl rfl) (pe_callTy c_list (by rfl) T.n_list (by decide +kernel) (pa_cons (pv 1) pa_nil)))
  (pss_cons (ps_for PassesOwn.never rfl (pi_range1 (by rfl) T.n_range (pa_cons pe_int pa_nil)) (pg_name (i := 3) sc_law_k03.nd rfl (Or.inl rfl)) (pss_cons (ps_set (i := 5) sc_law_k03.nd rfl (Or.inl rfl) (pe_call (ok_around T) (hr.mono (by decide)) rfl T.g_around T.F_around.kp T.b_around .nil pass0 (pa_cons (pv 2) pa_nil)))
  (pss_cons (ps_if (PW.pt (pw_or (pt_not (pt_val (pe_call (ok_l_right_k03 T) (hr.mono (by decide)) rfl T.g_l_right_k03 T.F_l_right_k03.kp T.b_l_right_k03 .nil pass0 (pa_cons (pv 1) (pa_cons (pv 5) pa_nil))))) (pw_or (pt_cmpR op_notBl (pe_meth (pv 5) T.cl_Around T.me_Around_shows (ok_Around_shows T) (hr.mono (by decide)) T.b_Around_shows .nil pass0 (pa_cons (pv 1) pa_nil)) pe_bl (nomark _)) (pw_or1 (pt_cmpR (op_neD hr.units) (pv 2) (pv 1) (nomark _)))))) (pss_one (ps_ret pe_bl)) pss_nil)
  (pss_cons (ps_set (i := 6) sc_law_k03.nd rfl (Or.inl rfl) (pe_call (ok_l_sum T) (hr.mono (by decide)) rfl T.g_l_sum T.F_l_sum.kp T.b_l_sum .nil pass0 (pa_cons (pv 1) (pa_cons (pe_fld (pv 5) rfl) (pa_cons (pe_fld (pv 5) rfl) pa_nil)))))
  (pss_cons (ps_for PassesOwn.never rfl (pi_list (pe_slice sl_list (pv 0) po_none (po_some pe_int))) (pg_name (i := 7) sc_law_k03.nd rfl (Or.inl rfl)) (pss_cons (ps_set (i := 8) sc_law_k03.nd rfl (Or.inl rfl) pe_int)
  (pss_one (ps_for PassesOwn.never rfl (pi_range1 (by rfl) T.n_range (pa_cons (pe_callB c_len (by rfl) T.n_len (by decide +kernel) (pa_cons (pv 1) pa_nil)) pa_nil)) (pg_name (i := 9) sc_law_k03.nd rfl (Or.inl rfl)) (pss_cons (ps_set (i := 8) sc_law_k03.nd rfl (Or.inl rfl) (pe_op op_addI (pv 8) (pe_ix ix_list (pv 1) (pe_op op_modI (pe_op op_addI (pe_op op_divI (pv 7) pe_int) (pv 9)) (pe_callB c_len (by rfl) T.n_len (by decide +kernel) (pa_cons (pv 1) pa_nil))) (fun _ _ => rfl))))
  (pss_one (ps_if (pt_cmpR op_gtI (pv 8) (pv 6) (nomark _)) (pss_one (ps_ret pe_bl)) pss_nil)))))))
  (pss_cons (ps_expr (pe_bm PySem.F.plainAttrs_list PySem.F.slot_list_append PySem.F.type_list_append mt_append (pe_fld (pv 5) rfl) (pa_cons pe_int pa_nil)))
  (pss_one (ps_if (pt_cmpR op_notBl (pe_meth (pv 5) T.cl_Around T.me_Around_shows (ok_Around_shows T) (hr.mono (by decide)) T.b_Around_shows .nil pass0 (pa_cons (pv 1) pa_nil)) pe_bl (nomark _)) (pss_one (ps_ret pe_bl)) pss_nil))))))))
  (pss_cons (ps_set (i := 4) sc_law_k03.nd rfl (Or.inl rfl) (pe_call (ok_around T) (hr.mono (by decide)) rfl T.g_around T.F_around.kp T.b_around .nil pass0 (pa_cons (pe_op op_cat (pe_slice sl_list (pv 1) (po_some pe_int) po_none) (pe_slice sl_list (pv 1) po_none (po_some pe_int))) pa_nil)))
  (pss_one (ps_ret (pe_cmpR op_eq (pe_call (ok_l_sum T) (hr.mono (by decide)) rfl T.g_l_sum T.F_l_sum.kp T.b_l_sum .nil pass0 (pa_cons (pe_op op_cat (pe_slice sl_list (pv 1) (po_some pe_int) po_none) (pe_slice sl_list (pv 1) po_none (po_some pe_int))) (pa_cons (pe_fld (pv 4) rfl) (pa_cons (pe_fld (pv 4) rfl) pa_nil)))) (pv 6) (nomark _)))))))))
end
def txt_mk {K : PySem.W.Frag} {h : Heap} {mg : Str → Option Value} (X : K.In h) (G : h.Ns mainGlobals mg)
    {tk_FARTHEST : Tok}
    {C_Answer : Addr}
    {C_Around : Addr}
    {C_Best : Addr}
    {C_Steep : Addr}
    {f_below : Addr} {od_below an_below : Option Addr} {sl_below : Array (Option Value)} {oc_below kV_below dc_below pm_below cd_below ct_below : Value}
    {f_summed : Addr} {od_summed an_summed : Option Addr} {sl_summed : Array (Option Value)} {oc_summed kV_summed dc_summed pm_summed cd_summed ct_summed : Value}
    {f_Around_shows : Addr} {od_Around_shows an_Around_shows : Option Addr} {sl_Around_shows : Array (Option Value)} {oc_Around_shows kV_Around_shows dc_Around_shows pm_Around_shows cd_Around_shows ct_Around_shows : Value}
    {f_l_sums : Addr} {od_l_sums an_l_sums : Option Addr} {sl_l_sums : Array (Option Value)} {oc_l_sums kV_l_sums dc_l_sums pm_l_sums cd_l_sums ct_l_sums : Value}
    {f_l_bounded : Addr} {od_l_bounded an_l_bounded : Option Addr} {sl_l_bounded : Array (Option Value)} {oc_l_bounded kV_l_bounded dc_l_bounded pm_l_bounded cd_l_bounded ct_l_bounded : Value}
    {f_l_numbers : Addr} {od_l_numbers an_l_numbers : Option Addr} {sl_l_numbers : Array (Option Value)} {oc_l_numbers kV_l_numbers dc_l_numbers pm_l_numbers cd_l_numbers ct_l_numbers : Value}
    {f_l_sum : Addr} {od_l_sum an_l_sum : Option Addr} {sl_l_sum : Array (Option Value)} {oc_l_sum kV_l_sum dc_l_sum pm_l_sum cd_l_sum ct_l_sum : Value}
    {f_l_right_k03 : Addr} {od_l_right_k03 an_l_right_k03 : Option Addr} {sl_l_right_k03 : Array (Option Value)} {oc_l_right_k03 kV_l_right_k03 dc_l_right_k03 pm_l_right_k03 cd_l_right_k03 ct_l_right_k03 : Value}
    {f_l_row : Addr} {od_l_row an_l_row : Option Addr} {sl_l_row : Array (Option Value)} {oc_l_row kV_l_row dc_l_row pm_l_row cd_l_row ct_l_row : Value}
    {f_Around_init : Addr} {od_Around_init an_Around_init : Option Addr} {sl_Around_init : Array (Option Value)} {oc_Around_init kV_Around_init dc_Around_init pm_Around_init cd_Around_init ct_Around_init : Value}
    {f_is_number : Addr} {od_is_number an_is_number : Option Addr} {sl_is_number : Array (Option Value)} {oc_is_number kV_is_number dc_is_number pm_is_number cd_is_number ct_is_number : Value}
    {f_asked_least : Addr} {od_asked_least an_asked_least : Option Addr} {sl_asked_least : Array (Option Value)} {oc_asked_least kV_asked_least dc_asked_least pm_asked_least cd_asked_least ct_asked_least : Value}
    {f_asked_row : Addr} {od_asked_row an_asked_row : Option Addr} {sl_asked_row : Array (Option Value)} {oc_asked_row kV_asked_row dc_asked_row pm_asked_row cd_asked_row ct_asked_row : Value}
    {f_best_of : Addr} {od_best_of an_best_of : Option Addr} {sl_best_of : Array (Option Value)} {oc_best_of kV_best_of dc_best_of pm_best_of cd_best_of ct_best_of : Value}
    {f_around : Addr} {od_around an_around : Option Addr} {sl_around : Array (Option Value)} {oc_around kV_around dc_around pm_around cd_around ct_around : Value}
    {f_law_k03 : Addr} {od_law_k03 an_law_k03 : Option Addr} {sl_law_k03 : Array (Option Value)} {oc_law_k03 kV_law_k03 dc_law_k03 pm_law_k03 cd_law_k03 ct_law_k03 : Value}
    (z_all : PySem.W.nsIn K mainGlobals "all" = some none)
    (z_bool : PySem.W.nsIn K mainGlobals "bool" = some none)
    (z_enumerate : PySem.W.nsIn K mainGlobals "enumerate" = some none)
    (z_int : PySem.W.nsIn K mainGlobals "int" = some none)
    (z_isinstance : PySem.W.nsIn K mainGlobals "isinstance" = some none)
    (z_len : PySem.W.nsIn K mainGlobals "len" = some none)
    (z_list : PySem.W.nsIn K mainGlobals "list" = some none)
    (z_range : PySem.W.nsIn K mainGlobals "range" = some none)
    (z_sum : PySem.W.nsIn K mainGlobals "sum" = some none)
    (c_FARTHEST : PySem.W.nsIn K mainGlobals "FARTHEST" = some (some (.int 1000000 tk_FARTHEST)))
    (a_Answer : PySem.W.nsIn K mainGlobals "Answer" = some (some (.ref C_Answer)))
    (a_Around : PySem.W.nsIn K mainGlobals "Around" = some (some (.ref C_Around)))
    (a_Best : PySem.W.nsIn K mainGlobals "Best" = some (some (.ref C_Best)))
    (a_Steep : PySem.W.nsIn K mainGlobals "Steep" = some (some (.ref C_Steep)))
    (pg_Around : PySem.W.plainGet K C_Around Str.empty = true)
    (hd_Around : PySem.W.hasDictIn K C_Around = true)
    (po_Around : PySem.W.plainOver K C_Around = true)
    (sa_Around : PySem.W.findIn K (.ref C_Around) "__setattr__" = some (some (.builtin "object.__setattr__")))
    (na_Around_first : PySem.W.findIn K (.ref C_Around) "first" = some none)
    (na_Around_lows : PySem.W.findIn K (.ref C_Around) "lows" = some none)
    (na_Around_many : PySem.W.findIn K (.ref C_Around) "many" = some none)
    (na_Around_tops : PySem.W.findIn K (.ref C_Around) "tops" = some none)
    (a_below : PySem.W.nsIn K mainGlobals "below" = some (some (.ref f_below)))
    (l_below : K.lookup f_below = some ⟨oc_below, od_below, .func (PySem.W.fnOf "below" "below" (defArgs s_below) (defBody s_below) (defScope s_below) .none kV_below dc_below pm_below an_below cd_below ct_below), sl_below⟩)
    (c_below : PySem.W.codeIn K cd_below "below" = true)
    (k_below : PySem.W.keepIn K (.ref f_below) = true)
    (a_summed : PySem.W.nsIn K mainGlobals "summed" = some (some (.ref f_summed)))
    (l_summed : K.lookup f_summed = some ⟨oc_summed, od_summed, .func (PySem.W.fnOf "summed" "summed" (defArgs s_summed) (defBody s_summed) (defScope s_summed) .none kV_summed dc_summed pm_summed an_summed cd_summed ct_summed), sl_summed⟩)
    (c_summed : PySem.W.codeIn K cd_summed "summed" = true)
    (k_summed : PySem.W.keepIn K (.ref f_summed) = true)
    (a_Around_shows : PySem.W.findIn K (.ref C_Around) "shows" = some (some (.ref f_Around_shows)))
    (i_Around_shows : PySem.W.isFn K (.ref f_Around_shows) = true)
    (l_Around_shows : K.lookup f_Around_shows = some ⟨oc_Around_shows, od_Around_shows, .func (PySem.W.fnOf "shows" "Around.shows" (defArgs s_Around_shows) (defBody s_Around_shows) (defScope s_Around_shows) .none kV_Around_shows dc_Around_shows pm_Around_shows an_Around_shows cd_Around_shows ct_Around_shows), sl_Around_shows⟩)
    (c_Around_shows : PySem.W.codeIn K cd_Around_shows "Around.shows" = true)
    (k_Around_shows : PySem.W.keepIn K (.ref f_Around_shows) = true)
    (a_l_sums : PySem.W.nsIn K mainGlobals "_law_sums" = some (some (.ref f_l_sums)))
    (l_l_sums : K.lookup f_l_sums = some ⟨oc_l_sums, od_l_sums, .func (PySem.W.fnOf "_law_sums" "_law_sums" (defArgs s_l_sums) (defBody s_l_sums) (defScope s_l_sums) .none kV_l_sums dc_l_sums pm_l_sums an_l_sums cd_l_sums ct_l_sums), sl_l_sums⟩)
    (c_l_sums : PySem.W.codeIn K cd_l_sums "_law_sums" = true)
    (k_l_sums : PySem.W.keepIn K (.ref f_l_sums) = true)
    (a_l_bounded : PySem.W.nsIn K mainGlobals "_law_bounded" = some (some (.ref f_l_bounded)))
    (l_l_bounded : K.lookup f_l_bounded = some ⟨oc_l_bounded, od_l_bounded, .func (PySem.W.fnOf "_law_bounded" "_law_bounded" (defArgs s_l_bounded) (defBody s_l_bounded) (defScope s_l_bounded) .none kV_l_bounded dc_l_bounded pm_l_bounded an_l_bounded cd_l_bounded ct_l_bounded), sl_l_bounded⟩)
    (c_l_bounded : PySem.W.codeIn K cd_l_bounded "_law_bounded" = true)
    (k_l_bounded : PySem.W.keepIn K (.ref f_l_bounded) = true)
    (a_l_numbers : PySem.W.nsIn K mainGlobals "_law_numbers" = some (some (.ref f_l_numbers)))
    (l_l_numbers : K.lookup f_l_numbers = some ⟨oc_l_numbers, od_l_numbers, .func (PySem.W.fnOf "_law_numbers" "_law_numbers" (defArgs s_l_numbers) (defBody s_l_numbers) (defScope s_l_numbers) .none kV_l_numbers dc_l_numbers pm_l_numbers an_l_numbers cd_l_numbers ct_l_numbers), sl_l_numbers⟩)
    (c_l_numbers : PySem.W.codeIn K cd_l_numbers "_law_numbers" = true)
    (k_l_numbers : PySem.W.keepIn K (.ref f_l_numbers) = true)
    (a_l_sum : PySem.W.nsIn K mainGlobals "_law_sum" = some (some (.ref f_l_sum)))
    (l_l_sum : K.lookup f_l_sum = some ⟨oc_l_sum, od_l_sum, .func (PySem.W.fnOf "_law_sum" "_law_sum" (defArgs s_l_sum) (defBody s_l_sum) (defScope s_l_sum) .none kV_l_sum dc_l_sum pm_l_sum an_l_sum cd_l_sum ct_l_sum), sl_l_sum⟩)
    (c_l_sum : PySem.W.codeIn K cd_l_sum "_law_sum" = true)
    (k_l_sum : PySem.W.keepIn K (.ref f_l_sum) = true)
    (a_l_right_k03 : PySem.W.nsIn K mainGlobals "_law_right" = some (some (.ref f_l_right_k03)))
    (l_l_right_k03 : K.lookup f_l_right_k03 = some ⟨oc_l_right_k03, od_l_right_k03, .func (PySem.W.fnOf "_law_right" "_law_right" (defArgs s_l_right_k03) (defBody s_l_right_k03) (defScope s_l_right_k03) .none kV_l_right_k03 dc_l_right_k03 pm_l_right_k03 an_l_right_k03 cd_l_right_k03 ct_l_right_k03), sl_l_right_k03⟩)
    (c_l_right_k03 : PySem.W.codeIn K cd_l_right_k03 "_law_right" = true)
    (k_l_right_k03 : PySem.W.keepIn K (.ref f_l_right_k03) = true)
    (a_l_row : PySem.W.nsIn K mainGlobals "_law_row" = some (some (.ref f_l_row)))
    (l_l_row : K.lookup f_l_row = some ⟨oc_l_row, od_l_row, .func (PySem.W.fnOf "_law_row" "_law_row" (defArgs s_l_row) (defBody s_l_row) (defScope s_l_row) .none kV_l_row dc_l_row pm_l_row an_l_row cd_l_row ct_l_row), sl_l_row⟩)
    (c_l_row : PySem.W.codeIn K cd_l_row "_law_row" = true)
    (k_l_row : PySem.W.keepIn K (.ref f_l_row) = true)
    (a_Around_init : PySem.W.findIn K (.ref C_Around) "__init__" = some (some (.ref f_Around_init)))
    (i_Around_init : PySem.W.isFn K (.ref f_Around_init) = true)
    (l_Around_init : K.lookup f_Around_init = some ⟨oc_Around_init, od_Around_init, .func (PySem.W.fnOf "__init__" "Around.__init__" (defArgs s_Around_init) (defBody s_Around_init) (defScope s_Around_init) .none kV_Around_init dc_Around_init pm_Around_init an_Around_init cd_Around_init ct_Around_init), sl_Around_init⟩)
    (c_Around_init : PySem.W.codeIn K cd_Around_init "Around.__init__" = true)
    (k_Around_init : PySem.W.keepIn K (.ref f_Around_init) = true)
    (a_is_number : PySem.W.nsIn K mainGlobals "is_number" = some (some (.ref f_is_number)))
    (l_is_number : K.lookup f_is_number = some ⟨oc_is_number, od_is_number, .func (PySem.W.fnOf "is_number" "is_number" (defArgs s_is_number) (defBody s_is_number) (defScope s_is_number) .none kV_is_number dc_is_number pm_is_number an_is_number cd_is_number ct_is_number), sl_is_number⟩)
    (c_is_number : PySem.W.codeIn K cd_is_number "is_number" = true)
    (k_is_number : PySem.W.keepIn K (.ref f_is_number) = true)
    (a_asked_least : PySem.W.nsIn K mainGlobals "asked_least" = some (some (.ref f_asked_least)))
    (l_asked_least : K.lookup f_asked_least = some ⟨oc_asked_least, od_asked_least, .func (PySem.W.fnOf "asked_least" "asked_least" (defArgs s_asked_least) (defBody s_asked_least) (defScope s_asked_least) .none kV_asked_least dc_asked_least pm_asked_least an_asked_least cd_asked_least ct_asked_least), sl_asked_least⟩)
    (c_asked_least : PySem.W.codeIn K cd_asked_least "asked_least" = true)
    (k_asked_least : PySem.W.keepIn K (.ref f_asked_least) = true)
    (a_asked_row : PySem.W.nsIn K mainGlobals "asked_row" = some (some (.ref f_asked_row)))
    (l_asked_row : K.lookup f_asked_row = some ⟨oc_asked_row, od_asked_row, .func (PySem.W.fnOf "asked_row" "asked_row" (defArgs s_asked_row) (defBody s_asked_row) (defScope s_asked_row) .none kV_asked_row dc_asked_row pm_asked_row an_asked_row cd_asked_row ct_asked_row), sl_asked_row⟩)
    (c_asked_row : PySem.W.codeIn K cd_asked_row "asked_row" = true)
    (k_asked_row : PySem.W.keepIn K (.ref f_asked_row) = true)
    (a_best_of : PySem.W.nsIn K mainGlobals "best_of" = some (some (.ref f_best_of)))
    (l_best_of : K.lookup f_best_of = some ⟨oc_best_of, od_best_of, .func (PySem.W.fnOf "best_of" "best_of" (defArgs s_best_of) (defBody s_best_of) (defScope s_best_of) .none kV_best_of dc_best_of pm_best_of an_best_of cd_best_of ct_best_of), sl_best_of⟩)
    (c_best_of : PySem.W.codeIn K cd_best_of "best_of" = true)
    (k_best_of : PySem.W.keepIn K (.ref f_best_of) = true)
    (a_around : PySem.W.nsIn K mainGlobals "around" = some (some (.ref f_around)))
    (l_around : K.lookup f_around = some ⟨oc_around, od_around, .func (PySem.W.fnOf "around" "around" (defArgs s_around) (defBody s_around) (defScope s_around) .none kV_around dc_around pm_around an_around cd_around ct_around), sl_around⟩)
    (c_around : PySem.W.codeIn K cd_around "around" = true)
    (k_around : PySem.W.keepIn K (.ref f_around) = true)
    (a_law_k03 : PySem.W.nsIn K mainGlobals "law" = some (some (.ref f_law_k03)))
    (l_law_k03 : K.lookup f_law_k03 = some ⟨oc_law_k03, od_law_k03, .func (PySem.W.fnOf "law" "law" (defArgs s_law_k03) (defBody s_law_k03) (defScope s_law_k03) .none kV_law_k03 dc_law_k03 pm_law_k03 an_law_k03 cd_law_k03 ct_law_k03), sl_law_k03⟩)
    (c_law_k03 : PySem.W.codeIn K cd_law_k03 "law" = true)
    (k_law_k03 : PySem.W.keepIn K (.ref f_law_k03) = true)
    (mk_Around : PySem.W.makesIn K C_Around = true)
    (kc_Around : PySem.W.keepIn K (.ref C_Around) = true)
    (x_xn : PySem.W.specialIn K (.builtin "object.__class__") "__get__" = some (some (.builtin "getset_descriptor.__get__")))
    (x_xt : PySem.W.takesIn K (.builtin "object.__class__") = some true)
    (x_xa_Around : PySem.W.findIn K (.ref C_Around) "__class__" = some (some (.builtin "object.__class__")))
    (x_xm_Around : PySem.W.mroIn K C_Around (.type "object") = some true)
    (x_xc_Answer : PySem.W.isClsIn K C_Answer = true)
    (x_xy_Answer : PySem.W.typeIn K (.ref C_Answer) = some (.type "type"))
    (x_xs_Around : PySem.W.subIn K (.ref C_Around) (.ref C_Around) = some true)
    (x_xk_Around_Answer : PySem.W.subIn K (.ref C_Around) (.ref C_Answer) = some true)
    (x_xc_Around : PySem.W.isClsIn K C_Around = true)
    (x_xy_Around : PySem.W.typeIn K (.ref C_Around) = some (.type "type"))
    (x_xk_Around_Around : PySem.W.subIn K (.ref C_Around) (.ref C_Around) = some true)
    (x_xc_Best : PySem.W.isClsIn K C_Best = true)
    (x_xy_Best : PySem.W.typeIn K (.ref C_Best) = some (.type "type"))
    (x_xk_Around_Best : PySem.W.subIn K (.ref C_Around) (.ref C_Best) = some false)
    (x_xc_Steep : PySem.W.isClsIn K C_Steep = true)
    (x_xy_Steep : PySem.W.typeIn K (.ref C_Steep) = some (.type "type"))
    (x_xk_Around_Steep : PySem.W.subIn K (.ref C_Around) (.ref C_Steep) = some false) : Txt K mg { Answer := C_Answer, Around := C_Around, Best := C_Best, Steep := C_Steep } :=
  { n_all := PySem.W.mg_none_of X G z_all,
    n_bool := PySem.W.mg_none_of X G z_bool,
    n_enumerate := PySem.W.mg_none_of X G z_enumerate,
    n_int := PySem.W.mg_none_of X G z_int,
    n_isinstance := PySem.W.mg_none_of X G z_isinstance,
    n_len := PySem.W.mg_none_of X G z_len,
    n_list := PySem.W.mg_none_of X G z_list,
    n_range := PySem.W.mg_none_of X G z_range,
    n_sum := PySem.W.mg_none_of X G z_sum,
    k_FARTHEST := tk_FARTHEST,
    g_FARTHEST := PySem.W.mg_of X G c_FARTHEST,
    g_Answer := PySem.W.mg_of X G a_Answer,
    g_Around := PySem.W.mg_of X G a_Around,
    g_Best := PySem.W.mg_of X G a_Best,
    g_Steep := PySem.W.mg_of X G a_Steep,
    cl_Around := ⟨pg_Around, hd_Around, po_Around, sa_Around⟩,
    na_Around_first := na_Around_first,
    na_Around_lows := na_Around_lows,
    na_Around_many := na_Around_many,
    na_Around_tops := na_Around_tops,
    f_below := f_below,
    d_below := _,
    F_below := fun_mk (st := s_below) l_below c_below k_below,
    b_below := (fun_mk (st := s_below) l_below c_below k_below).binds (ps := (["sums", "least", "lows", "told"] : List Str)) fun _ _ _ _ _ _ us hl => match us, hl with | [_, _, _, _], _ => rfl,
    g_below := PySem.W.mg_of X G a_below,
    f_summed := f_summed,
    d_summed := _,
    F_summed := fun_mk (st := s_summed) l_summed c_summed k_summed,
    b_summed := (fun_mk (st := s_summed) l_summed c_summed k_summed).binds (ps := (["row"] : List Str)) fun _ _ _ _ _ _ us hl => match us, hl with | [_], _ => rfl,
    g_summed := PySem.W.mg_of X G a_summed,
    f_Around_shows := f_Around_shows,
    d_Around_shows := _,
    F_Around_shows := fun_mk (st := s_Around_shows) l_Around_shows c_Around_shows k_Around_shows,
    b_Around_shows := (fun_mk (st := s_Around_shows) l_Around_shows c_Around_shows k_Around_shows).binds (ps := (["self", "row"] : List Str)) fun _ _ _ _ _ _ us hl => match us, hl with | [_, _], _ => rfl,
    me_Around_shows := ⟨a_Around_shows, i_Around_shows, k_Around_shows⟩,
    f_l_sums := f_l_sums,
    d_l_sums := _,
    F_l_sums := fun_mk (st := s_l_sums) l_l_sums c_l_sums k_l_sums,
    b_l_sums := (fun_mk (st := s_l_sums) l_l_sums c_l_sums k_l_sums).binds (ps := (["_law_row_here"] : List Str)) fun _ _ _ _ _ _ us hl => match us, hl with | [_], _ => rfl,
    g_l_sums := PySem.W.mg_of X G a_l_sums,
    f_l_bounded := f_l_bounded,
    d_l_bounded := _,
    F_l_bounded := fun_mk (st := s_l_bounded) l_l_bounded c_l_bounded k_l_bounded,
    b_l_bounded := (fun_mk (st := s_l_bounded) l_l_bounded c_l_bounded k_l_bounded).binds (ps := (["_law_row_here", "_law_least", "_law_lows", "_law_most"] : List Str)) fun _ _ _ _ _ _ us hl => match us, hl with | [_, _, _, _], _ => rfl,
    g_l_bounded := PySem.W.mg_of X G a_l_bounded,
    f_l_numbers := f_l_numbers,
    d_l_numbers := _,
    F_l_numbers := fun_mk (st := s_l_numbers) l_l_numbers c_l_numbers k_l_numbers,
    b_l_numbers := (fun_mk (st := s_l_numbers) l_l_numbers c_l_numbers k_l_numbers).binds (ps := (["_law_found"] : List Str)) fun _ _ _ _ _ _ us hl => match us, hl with | [_], _ => rfl,
    g_l_numbers := PySem.W.mg_of X G a_l_numbers,
    f_l_sum := f_l_sum,
    d_l_sum := _,
    F_l_sum := fun_mk (st := s_l_sum) l_l_sum c_l_sum k_l_sum,
    b_l_sum := (fun_mk (st := s_l_sum) l_l_sum c_l_sum k_l_sum).binds (ps := (["_law_row_here", "_law_first", "_law_many"] : List Str)) fun _ _ _ _ _ _ us hl => match us, hl with | [_, _, _], _ => rfl,
    g_l_sum := PySem.W.mg_of X G a_l_sum,
    f_l_right_k03 := f_l_right_k03,
    d_l_right_k03 := _,
    F_l_right_k03 := fun_mk (st := s_l_right_k03) l_l_right_k03 c_l_right_k03 k_l_right_k03,
    b_l_right_k03 := (fun_mk (st := s_l_right_k03) l_l_right_k03 c_l_right_k03 k_l_right_k03).binds (ps := (["_law_row_here", "_law_found"] : List Str)) fun _ _ _ _ _ _ us hl => match us, hl with | [_, _], _ => rfl,
    g_l_right_k03 := PySem.W.mg_of X G a_l_right_k03,
    f_l_row := f_l_row,
    d_l_row := _,
    F_l_row := fun_mk (st := s_l_row) l_l_row c_l_row k_l_row,
    b_l_row := (fun_mk (st := s_l_row) l_l_row c_l_row k_l_row).binds (ps := (["_law_script"] : List Str)) fun _ _ _ _ _ _ us hl => match us, hl with | [_], _ => rfl,
    g_l_row := PySem.W.mg_of X G a_l_row,
    f_Around_init := f_Around_init,
    d_Around_init := _,
    F_Around_init := fun_mk (st := s_Around_init) l_Around_init c_Around_init k_Around_init,
    b_Around_init := (fun_mk (st := s_Around_init) l_Around_init c_Around_init k_Around_init).binds (ps := (["self", "first", "many", "lows", "tops"] : List Str)) fun _ _ _ _ _ _ us hl => match us, hl with | [_, _, _, _, _], _ => rfl,
    f_is_number := f_is_number,
    d_is_number := _,
    F_is_number := fun_mk (st := s_is_number) l_is_number c_is_number k_is_number,
    b_is_number := (fun_mk (st := s_is_number) l_is_number c_is_number k_is_number).binds (ps := (["thing"] : List Str)) fun _ _ _ _ _ _ us hl => match us, hl with | [_], _ => rfl,
    g_is_number := PySem.W.mg_of X G a_is_number,
    f_asked_least := f_asked_least,
    d_asked_least := _,
    F_asked_least := fun_mk (st := s_asked_least) l_asked_least c_asked_least k_asked_least,
    b_asked_least := (fun_mk (st := s_asked_least) l_asked_least c_asked_least k_asked_least).binds (ps := (["row", "least"] : List Str)) fun _ _ _ _ _ _ us hl => match us, hl with | [_, _], _ => rfl,
    g_asked_least := PySem.W.mg_of X G a_asked_least,
    f_asked_row := f_asked_row,
    d_asked_row := _,
    F_asked_row := fun_mk (st := s_asked_row) l_asked_row c_asked_row k_asked_row,
    b_asked_row := (fun_mk (st := s_asked_row) l_asked_row c_asked_row k_asked_row).binds (ps := (["row"] : List Str)) fun _ _ _ _ _ _ us hl => match us, hl with | [_], _ => rfl,
    g_asked_row := PySem.W.mg_of X G a_asked_row,
    f_best_of := f_best_of,
    d_best_of := _,
    F_best_of := fun_mk (st := s_best_of) l_best_of c_best_of k_best_of,
    b_best_of := (fun_mk (st := s_best_of) l_best_of c_best_of k_best_of).binds (ps := (["row", "least"] : List Str)) fun _ _ _ _ _ _ us hl => match us, hl with | [_, _], _ => rfl,
    g_best_of := PySem.W.mg_of X G a_best_of,
    f_around := f_around,
    d_around := _,
    F_around := fun_mk (st := s_around) l_around c_around k_around,
    b_around := (fun_mk (st := s_around) l_around c_around k_around).binds (ps := (["row"] : List Str)) fun _ _ _ _ _ _ us hl => match us, hl with | [_], _ => rfl,
    g_around := PySem.W.mg_of X G a_around,
    f_law_k03 := f_law_k03,
    d_law_k03 := _,
    F_law_k03 := fun_mk (st := s_law_k03) l_law_k03 c_law_k03 k_law_k03,
    b_law_k03 := (fun_mk (st := s_law_k03) l_law_k03 c_law_k03 k_law_k03).binds (ps := (["_law_script"] : List Str)) fun _ _ _ _ _ _ us hl => match us, hl with | [_], _ => rfl,
    g_law_k03 := PySem.W.mg_of X G a_law_k03,
    mk_Around := ⟨mk_Around, a_Around_init, i_Around_init, kc_Around⟩,
    xn := x_xn,
    xt := x_xt,
    xa_Around := x_xa_Around,
    xm_Around := x_xm_Around,
    xc_Answer := x_xc_Answer,
    xy_Answer := x_xy_Answer,
    xs_Around := x_xs_Around,
    xk_Around_Answer := x_xk_Around_Answer,
    xc_Around := x_xc_Around,
    xy_Around := x_xy_Around,
    xk_Around_Around := x_xk_Around_Around,
    xc_Best := x_xc_Best,
    xy_Best := x_xy_Best,
    xk_Around_Best := x_xk_Around_Best,
    xc_Steep := x_xc_Steep,
    xy_Steep := x_xy_Steep,
    xk_Around_Steep := x_xk_Around_Steep }
theorem all_mk {l : PySem.W.OpenLaw} {w : World} {K : PySem.W.Frag} {mg : Str → Option Value} {fa : Addr} {cs : Cs} (T : Txt K mg cs) (hfa : mg "law" = some (.ref fa)) :
    ∃ fd : FuncData, (∀ (s : Shared) (v : Value), BindsTo s fd ⟨[v], []⟩ [("_law_script", v)]) ∧ ∀ base : Heap, K.In base → base.Ns mainGlobals mg → FnOk l.prog w K mg base CX0 4 fa fd (["_law_script"] : List Str) (sp_law_k03 K cs) := by
  have e := hfa.symm.trans T.g_law_k03
  cases e
  refine ⟨T.d_law_k03, fun s v => ?_, fun base _ _ => ok_law_k03 T⟩
  obtain ⟨oc, od, kV, doc, pm, an, cdv, ct, osl, e, _, _⟩ := T.F_law_k03.ex
  rw [e]
  exact .of_eq rfl
theorem walk {l : PySem.W.OpenLaw} {q : Program} {loose : List Str} {XP : (Str → Option Value) → Heap → Prop} {YP : World → Heap → Prop} {d : DefRec} {K : Params → PySem.W.Frag} (hn : l.most = some 63) (hdf : d.params.defaults = [])
    (hY : ∀ (w : World) (h : Heap), YP w h → (K w.params).In h)
    (F : ∀ (w : World) (mg : Str → Option Value) (fa : Addr) (h : Heap), (K w.params).In h → h.Ns mainGlobals mg → mg d.name = some (.ref fa) →
      ∃ fd : FuncData, (∀ (s : Shared) (u : Value), BindsTo s fd ⟨[u], []⟩ [("_law_script", u)]) ∧ ∀ base : Heap, (K w.params).In base → base.Ns mainGlobals mg → FnOk l.prog w (K w.params) mg base CX0 4 fa fd (["_law_script"] : List Str) (spLaw (K w.params))) :
    PySem.W.WalkO q loose XP YP l.row.toRowW d [] (fun f vs => PySem.call f vs) :=
  L2.walk_of (n := 63) (k := 4) (x := "_law_script") (CX := fun _ => CX0) (sp := fun w => spLaw (K w.params)) hn (by decide) hdf ⟨rfl, by decide, by decide⟩ hY F (fun _ _ a ns hl _ hS => ⟨a, ns, rfl, hS, hl, fun _ => rfl⟩) fun _ _ _ _ _ z => z
end Bs
open PySem PySem.W PyProof.Rows
set_option maxRecDepth 100000 in
set_option maxHeartbeats 0 in
theorem PySem.Challenge.cw_beststretch_k03_whole_around_holds : PySem.Challenge.rw_beststretch_k03_whole_around.Holds := by
  w_on; o_law; k_head; (case hw => w_witness2)
  k_fill
  refine Bs.walk (l := PySem.Challenge.rw_beststretch_k03_whole_around) rfl rfl (fun w h Y => PySem.W.kIn_of Y) ?F
  case F =>
    intro w mg fa h KX G hmg
    refine' Bs.all_mk (Bs.txt_mk KX G ?z_all ?z_bool ?z_enumerate ?z_int ?z_isinstance ?z_len ?z_list ?z_range ?z_sum ?c_FARTHEST ?a_Answer ?a_Around ?a_Best ?a_Steep ?pg_Around ?hd_Around ?po_Around ?sa_Around ?na_Around_first ?na_Around_lows ?na_Around_many ?na_Around_tops ?a_below ?l_below ?c_below ?k_below ?a_summed ?l_summed ?c_summed ?k_summed ?a_Around_shows ?i_Around_shows ?l_Around_shows ?c_Around_shows ?k_Around_shows ?a_l_sums ?l_l_sums ?c_l_sums ?k_l_sums ?a_l_bounded ?l_l_bounded ?c_l_bounded ?k_l_bounded ?a_l_numbers ?l_l_numbers ?c_l_numbers ?k_l_numbers ?a_l_sum ?l_l_sum ?c_l_sum ?k_l_sum ?a_l_right_k03 ?l_l_right_k03 ?c_l_right_k03 ?k_l_right_k03 ?a_l_row ?l_l_row ?c_l_row ?k_l_row ?a_Around_init ?i_Around_init ?l_Around_init ?c_Around_init ?k_Around_init ?a_is_number ?l_is_number ?c_is_number ?k_is_number ?a_asked_least ?l_asked_least ?c_asked_least ?k_asked_least ?a_asked_row ?l_asked_row ?c_asked_row ?k_asked_row ?a_best_of ?l_best_of ?c_best_of ?k_best_of ?a_around ?l_around ?c_around ?k_around ?a_law_k03 ?l_law_k03 ?c_law_k03 ?k_law_k03 ?mk_Around ?kc_Around ?x_xn ?x_xt ?x_xa_Around ?x_xm_Around ?x_xc_Answer ?x_xy_Answer ?x_xs_Around ?x_xk_Around_Answer ?x_xc_Around ?x_xy_Around ?x_xk_Around_Around ?x_xc_Best ?x_xy_Best ?x_xk_Around_Best ?x_xc_Steep ?x_xy_Steep ?x_xk_Around_Steep) hmg
    (case z_all => k_is)
    (case z_bool => k_is)
    (case z_enumerate => k_is)
    (case z_int => k_is)
    (case z_isinstance => k_is)
    (case z_len => k_is)
    (case z_list => k_is)
    (case z_range => k_is)
    (case z_sum => k_is)
    (case c_FARTHEST => k_is)
    (case a_Answer => k_is)
    (case a_Around => k_is)
    (case a_Best => k_is)
    (case a_Steep => k_is)
    (case pg_Around => k_is)
    (case hd_Around => k_is)
    (case po_Around => k_is)
    (case sa_Around => k_is)
    (case na_Around_first => k_is)
    (case na_Around_lows => k_is)
    (case na_Around_many => k_is)
    (case na_Around_tops => k_is)
    (case a_below => k_is)
    (case l_below => k_is)
    (case c_below => k_is)
    (case k_below => k_is)
    (case a_summed => k_is)
    (case l_summed => k_is)
    (case c_summed => k_is)
    (case k_summed => k_is)
    (case a_Around_shows => k_is)
    (case i_Around_shows => k_is)
    (case l_Around_shows => k_is)
    (case c_Around_shows => k_is)
    (case k_Around_shows => k_is)
    (case a_l_sums => k_is)
    (case l_l_sums => k_is)
    (case c_l_sums => k_is)
    (case k_l_sums => k_is)
    (case a_l_bounded => k_is)
    (case l_l_bounded => k_is)
    (case c_l_bounded => k_is)
    (case k_l_bounded => k_is)
    (case a_l_numbers => k_is)
    (case l_l_numbers => k_is)
    (case c_l_numbers => k_is)
    (case k_l_numbers => k_is)
    (case a_l_sum => k_is)
    (case l_l_sum => k_is)
    (case c_l_sum => k_is)
    (case k_l_sum => k_is)
    (case a_l_right_k03 => k_is)
    (case l_l_right_k03 => k_is)
    (case c_l_right_k03 => k_is)
    (case k_l_right_k03 => k_is)
    (case a_l_row => k_is)
    (case l_l_row => k_is)
    (case c_l_row => k_is)
    (case k_l_row => k_is)
    (case a_Around_init => k_is)
    (case i_Around_init => k_is)
    (case l_Around_init => k_is)
    (case c_Around_init => k_is)
    (case k_Around_init => k_is)
    (case a_is_number => k_is)
    (case l_is_number => k_is)
    (case c_is_number => k_is)
    (case k_is_number => k_is)
    (case a_asked_least => k_is)
    (case l_asked_least => k_is)
    (case c_asked_least => k_is)
    (case k_asked_least => k_is)
    (case a_asked_row => k_is)
    (case l_asked_row => k_is)
    (case c_asked_row => k_is)
    (case k_asked_row => k_is)
    (case a_best_of => k_is)
    (case l_best_of => k_is)
    (case c_best_of => k_is)
    (case k_best_of => k_is)
    (case a_around => k_is)
    (case l_around => k_is)
    (case c_around => k_is)
    (case k_around => k_is)
    (case a_law_k03 => k_is)
    (case l_law_k03 => k_is)
    (case c_law_k03 => k_is)
    (case k_law_k03 => k_is)
    (case mk_Around => k_is)
    (case kc_Around => k_is)
    (case x_xn => k_is)
    (case x_xt => k_is)
    (case x_xa_Around => k_is)
    (case x_xm_Around => k_is)
    (case x_xc_Answer => k_is)
    (case x_xy_Answer => k_is)
    (case x_xs_Around => k_is)
    (case x_xk_Around_Answer => k_is)
    (case x_xc_Around => k_is)
    (case x_xy_Around => k_is)
    (case x_xk_Around_Around => k_is)
    (case x_xc_Best => k_is)
    (case x_xy_Best => k_is)
    (case x_xk_Around_Best => k_is)
    (case x_xc_Steep => k_is)
    (case x_xy_Steep => k_is)
    (case x_xk_Around_Steep => k_is)
