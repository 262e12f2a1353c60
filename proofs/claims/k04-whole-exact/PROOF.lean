import PyProof.Rows.All
import Wide.All
import OpenK.AllK
import Wide.FinOn
import HandS.ForMost
import HandS.Walk
import HandS.Style
import HandS.IsInst
import HandS.RevRange
import HandS.Conv
import HandS.SortInts
import HandS.More
import PySem.Challenge.RW_beststretch_k04_whole_exact
set_option Elab.async false
set_option linter.all false
set_option maxRecDepth 100000
set_option maxHeartbeats 4000000
namespace Bs
open PySem L2

/-! ### operators by name -/
def rAddI : R2 := rI0 fun i j => .int (i + j)
def rSubI : R2 := rI0 fun i j => .int (i - j)
def rMulI : R2 := rI CMul fun i j => .int (i * j)
def rModI : R2 := rI (fun _ j => 0 < j) fun i j => .int (i % j)
def rDivI : R2 := rI CDiv fun i j => .int (i / j)
def rPowI : R2 := rI CPow fun i j => .int (i ^ j.toNat)
def rLtI : R2 := rI0 fun i j => .bl (decide (i < j))
def rLeI : R2 := rI0 fun i j => .bl (decide (i ≤ j))
def rGtI : R2 := rI0 fun i j => .bl (decide (j < i))
def rGeI : R2 := rI0 fun i j => .bl (decide (j ≤ i))
def rNegI : V → Hp → VK → Prop := rU fun i => .int (-i)
def cLen (K : PySem.W.Frag) : List V → Hp → VK → Prop := fun xs H Q => ∃ p ys, xs = [.ref p] ∧ (SqL K H p ys ∨ SqT K H p ys) ∧ Q (.int ys.length) H
def cList (K : PySem.W.Frag) : List V → Hp → VK → Prop := fun xs H Q => ∃ p ys, xs = [.ref p] ∧ (SqL K H p ys ∨ SqT K H p ys) ∧ ∀ l, H l = none → Q (.ref l) (upd H l (.lst ys))
def cMax2 : List V → Hp → VK → Prop := fun xs H Q => ∃ i j, xs = [.int i, .int j] ∧ Q (.int (if j > i then j else i)) H
def cMin2 : List V → Hp → VK → Prop := fun xs H Q => ∃ i j, xs = [.int i, .int j] ∧ Q (.int (if j < i then j else i)) H
section
variable {X : Cx}
theorem op_addI : OpR X (binaryOp .Add) rAddI := op_add
theorem op_subI : OpR X (binaryOp .Sub) rSubI := op_sub
theorem op_mulI : OpR X (binaryOp .Mult) rMulI := op_mul
theorem op_modI : OpR X (binaryOp .Mod) rModI := op_mod
theorem op_divI : OpR X (binaryOp .FloorDiv) rDivI := op_fdiv
theorem op_powI : OpR X (binaryOp .Pow) rPowI := op_pow
theorem op_ltI : OpR X (compareOp .Lt) rLtI := op_lt
theorem op_leI : OpR X (compareOp .LtE) rLeI := op_le
theorem op_gtI : OpR X (compareOp .Gt) rGtI := op_gt
theorem op_geI : OpR X (compareOp .GtE) rGeI := op_ge
theorem un_negI : UnR X (unaryOp .USub) rNegI := un_neg
theorem c_len : CallR X (.builtin "len") (cLen X.K) := call_len_seq
theorem c_list : CallR X (.type "list") (cList X.K) := call_list_of
theorem c_max2 (hc : X.calm = true) : CallR X (.builtin "max") cMax2 := call_max2 hc
theorem c_min2 (hc : X.calm = true) : CallR X (.builtin "min") cMin2 := call_min2 hc
/-- one of two readings -/
def tAlt (t u : TE) : TE := fun σ H Q => t σ H Q ∨ u σ H Q
theorem pe_alt {e : Expr} {t u : TE} (h1 : PE X e t) (h2 : PE X e u) : PE X e (tAlt t u) :=
  ⟨fun pins s σ H Q I h => h.elim (fun q => h1.run pins s σ H Q I q) fun q => h2.run pins s σ H Q I q⟩
end

/-! ### heaps -/
section
variable {H H0 H1 H2 : Hp} {a p : Addr} {o o' : HO} {K : PySem.W.Frag} {xs : List V}
theorem same_new (s : Same H0 H) (n : H p = none) : Same H0 (upd H p o) := fun b u e => by
  have := s b u e
  rw [upd_ne (ne_of_none this n)]
  exact this
theorem same_mut (s : Same H0 H) (n : H0 p = none) : Same H0 (upd H p o) := fun b u e => by
  rw [upd_ne (ne_of_none e n)]
  exact s b u e
theorem same_new' (n : H p = none) (s : Same H0 H) : Same H0 (upd H p o) := same_new s n
theorem same_mut' (n : H0 p = none) (s : Same H0 H) : Same H0 (upd H p o) := same_mut s n
theorem same_r (s : Same H1 H2) (t : Same H0 H1) : Same H0 H2 := t.trans s
theorem at_new (h : H a = some o) (n : H p = none) : upd H p o' a = some o := (upd_ne (ne_of_none h n)).trans h
theorem at_new' (n : H p = none) (h : H a = some o) : upd H p o' a = some o := at_new h n
theorem at_mut (d : a ≠ p) (h : H a = some o) : upd H p o' a = some o := (upd_ne d).trans h
theorem at_same (s : Same H0 H) (h : H0 a = some o) : H a = some o := s a o h
theorem free_of (s : Same H0 H) (h : H p = none) : H0 p = none := s.free h
theorem ne_old (n : H p = none) (h : H a = some o) : a ≠ p := ne_of_none h n
theorem sq_same (h : SqL K H0 a xs) (s : Same H0 H) : SqL K H a xs := s.seq h
theorem sqt_same (h : SqT K H0 a xs) (s : Same H0 H) : SqT K H a xs := by
  rcases h with (h | ⟨o, h⟩) | h
  · exact .inl (.inl (s _ _ h))
  · exact .inl (.inr ⟨o, s _ _ h⟩)
  · exact .inr h
theorem free_of' (h : H p = none) (s : Same H0 H) : H0 p = none := s.free h
theorem rd_frz {u : HO} {od : Obj} (h : H a = some (.frz od u)) : Rd H a u := .inr ⟨od, h⟩
theorem free_upd (n : H a = none) (d : a ≠ p) : upd H p o a = none := (upd_ne d).trans n
end

/-! ### what a def hands back -/
/-- a value, the objects as they were -/
def RetV (H : Hp) (Q : VK) (v : V) : Prop := ∀ H', Same H H' → Q v H'
/-- a new list of ints -/
def RetI (H : Hp) (Q : VK) (ns : List Int) : Prop := ∀ p H', H p = none → Same H H' → H' p = some (.lst (ns.map V.int)) → Q (.ref p) H'

/-! ### what is wanted behind a part, by name -/
def kBl (Q : Bool → Hp → Prop) : VK := fun x H => ∃ k, x = .bl k ∧ Q k H
def kNot (Q : Bool → Hp → Prop) : Bool → Hp → Prop := fun c H => Q (!c) H
def kAnd (u : TT) (σ : L2.St) (Q : Bool → Hp → Prop) : Bool → Hp → Prop := fun c H => if c = true then u σ H Q else Q false H
def kOr (u : TT) (σ : L2.St) (Q : Bool → Hp → Prop) : Bool → Hp → Prop := fun c H => if c = true then Q true H else u σ H Q
def kAndV (u : TE) (σ : L2.St) (Q : VK) : VK := fun x H => ∃ c, x = .bl c ∧ if c = true then u σ H Q else Q (.bl false) H
def kOrV (u : TE) (σ : L2.St) (Q : VK) : VK := fun x H => ∃ c, x = .bl c ∧ if c = true then Q (.bl true) H else u σ H Q
def kNotV (Q : VK) : VK := fun x H => ∃ c, x = .bl c ∧ Q (.bl (!c)) H
def kIfS (t u : TS) (D : Ends) (σ : L2.St) : Bool → Hp → Prop := fun b H => if b = true then t D σ H else u D σ H
def kIfE (t u : TE) (σ : L2.St) (Q : VK) : Bool → Hp → Prop := fun b H => if b = true then t σ H Q else u σ H Q
def kSet (i : Nat) (D : Ends) (σ : L2.St) : VK := fun v H => D.nx (σ.set i (some v)) H
def kAsg (g : TG) (D : Ends) (σ : L2.St) : VK := fun v H => g v σ H D.nx
def kDrop (D : Ends) (σ : L2.St) : VK := fun _ H => D.nx σ H
def kCall (sp : Sp) (dvs : List V) (E : XK) (Q : VK) : List V → Hp → Prop := fun vs H => sp (vs ++ dvs) H Q E
def kCB (r : List V → Hp → VK → Prop) (Q : VK) : List V → Hp → Prop := fun vs H => r vs H Q
def kBM (K : PySem.W.Frag) (T : String) (r : V → List V → Hp → VK → Prop) (ta : TA) (σ : L2.St) (Q : VK) : VK := fun x H => tyV K T x H ∧ ta σ H fun xs H2 => r x xs H2 Q
def kBM0 (K : PySem.W.Frag) (T : String) (r : V → List V → Hp → VK → Prop) (Q : VK) : VK := fun x H => tyV K T x H ∧ r x [] H Q
def kFor (g : TG) (tb : TS) (D : Ends) (σ : L2.St) : It → Hp → Prop := fun J H1 => ∃ W : Nat → Nat → L2.St → Hp → Prop, (∃ m, W 0 m σ H1) ∧ ∀ i m σ H, W i m σ H →
    (J.stop i H ∧ D.nx σ H) ∨ (J.go i H ∧ ∃ N : L2.St → Hp → Prop, (∀ σ' H', N σ' H' → ∃ m', m' < m ∧ W (i + 1) m' σ' H') ∧ ∀ x H', J.yld i H x H' → g x σ H' fun σ2 H2 => tb { D with nx := N, ct := N, bk := D.nx } σ2 H2)
def kLc (g : TG) (tt : TT) (te : TE) (vs : List Nat) (σ : L2.St) (Q : VK) : It → Hp → Prop := fun J H1 => ∀ D, H1 D = none → ∃ W : Nat → Nat → Hp → Prop, (∃ m, W 0 m (upd H1 D (.lst []))) ∧ ∀ i m H, W i m H →
    (J.stop i H ∧ Q (.ref D) H) ∨ (J.go i H ∧ ∃ Nx : Hp → Prop, (∀ H', Nx H' → ∃ m', m' < m ∧ W (i + 1) m' H') ∧ ∀ x H', J.yld i H x H' → g x (wipe σ vs) H' fun σ2 H2 => wipe σ2 vs = wipe σ vs ∧ tt σ2 H2 fun b H3 =>
      if b = true then te σ2 H3 fun y H4 => ∃ acc, H4 D = some (.lst acc) ∧ acc.length < sizeLine ∧ Nx (upd H4 D (.lst (acc ++ [y]))) else Nx H3)
def kIList (K : PySem.W.Frag) (R : It → Hp → Prop) : VK := fun x H => ∃ a, x = .ref a ∧ (∃ xs, SqL K H a xs) ∧ R (Itl K a) H
def kRng1 (R : It → Hp → Prop) : List V → Hp → Prop := fun vs H1 => ∃ j : Int, vs = [.int j] ∧ -(2 ^ 62) ≤ j ∧ j < 2 ^ 62 ∧ R (Itr 0 j.toNat) H1
def kRng2 (R : It → Hp → Prop) : List V → Hp → Prop := fun vs H1 => ∃ i j : Int, vs = [.int i, .int j] ∧ (-(2 ^ 62) ≤ i ∧ i < 2 ^ 62 ∧ -(2 ^ 62) ≤ j ∧ j < 2 ^ 62) ∧ R (Itr i (j - i).toNat) H1
def kEnum (K : PySem.W.Frag) (R : It → Hp → Prop) : List V → Hp → Prop := fun vs H1 => ∃ a xs, vs = [.ref a] ∧ SqL K H1 a xs ∧ R (Ite K a) H1
def kLst (Q : VK) : List V → Hp → Prop := fun xs H1 => xs.length ≤ sizeLine ∧ ∀ p, H1 p = none → Q (.ref p) (upd H1 p (.lst xs))
def kTup (Q : VK) : List V → Hp → Prop := fun xs H1 => xs.length ≤ sizeLine ∧ ∀ p, H1 p = none → Q (.ref p) (upd H1 p (.tup xs))
def kFld (K : PySem.W.Frag) (f : Str) (Q : VK) : VK := fun x H1 => ∃ a C dx fs v, x = .ref a ∧ H1 a = some (.ins C dx fs) ∧ Cls K C ∧ NoAttr K C f ∧ fs.lookup f = some v ∧ Q v H1
def kPart (Q : Option Int → Hp → Prop) : VK := fun x H1 => ∃ i, x = .int i ∧ Q (some i) H1
def kChain (r' : R2) (y : V) (tc : TE) (σ : L2.St) (Q : VK) : VK := fun z H3 => ∃ k, z = .bl k ∧ (if k = true then tc σ H3 fun w' H4 => r' y w' H4 Q else Q (.bl false) H3)
def kMeth (C : Addr) (m : Str) (sp : Sp) (dvs : List V) (E : XK) (t : TA) (σ : L2.St) (Q : VK) : VK := fun x H1 => ∃ a dx fs, x = .ref a ∧ H1 a = some (.ins C dx fs) ∧ fs.lookup m = none ∧ t σ H1 fun vs H2 => sp (x :: (vs ++ dvs)) H2 Q E
def kMake (C : Addr) (sp : Sp) (dvs : List V) (E : XK) (Q : VK) : List V → Hp → Prop := fun vs H1 => ∀ x dx, H1 x = none → H1 dx = none → dx ≠ x →
    sp (.ref x :: (vs ++ dvs)) (upd (upd H1 dx (.own x)) x (.ins C dx [])) (fun v H2 => v = .non ∧ Q (.ref x) H2) E

section
variable {K : PySem.W.Frag} {σ σ' : L2.St} {H H' : Hp} {Q : VK} {QB : Bool → Hp → Prop} {ta tb te : TE} {tt uu : TT} {t u : TS} {D : Ends} {v x y : V} {i j : Int} {r : R2} {a b p : Addr} {ns ms : List Int} {xs ys vs : List V} {c d : Bool}
/-! ### expressions -/
theorem wp_var {n : Nat} (h : σ[n]? = some (some v)) (q : Q v H) : tVar n σ H Q := ⟨v, h, q⟩
theorem wp_c (q : Q v H) : tC v σ H Q := q
theorem wp_op (q : ta σ H fun x H1 => tb σ H1 fun y H2 => r x y H2 Q) : tOp r ta tb σ H Q := q
theorem wp_un {r : V → Hp → VK → Prop} (q : ta σ H fun x H1 => r x H1 Q) : tUn r ta σ H Q := q
theorem wp_addI (q : Q (.int (i + j)) H) : rAddI (.int i) (.int j) H Q := ⟨i, j, rfl, rfl, q⟩
theorem wp_subI (q : Q (.int (i - j)) H) : rSubI (.int i) (.int j) H Q := ⟨i, j, rfl, rfl, q⟩
theorem wp_mulI (h : CMul i j) (q : Q (.int (i * j)) H) : rMulI (.int i) (.int j) H Q := ⟨i, j, rfl, rfl, h, q⟩
theorem wp_modI (h : 0 < j) (q : Q (.int (i % j)) H) : rModI (.int i) (.int j) H Q := ⟨i, j, rfl, rfl, h, q⟩
theorem wp_divI (h : 0 < j ∧ j < 1073741824) (q : Q (.int (i / j)) H) : rDivI (.int i) (.int j) H Q := ⟨i, j, rfl, rfl, h, q⟩
theorem wp_negI (q : Q (.int (-i)) H) : rNegI (.int i) H Q := ⟨i, rfl, q⟩
theorem wp_ltI (q : Q (.bl (decide (i < j))) H) : rLtI (.int i) (.int j) H Q := ⟨i, j, rfl, rfl, q⟩
theorem wp_leI (q : Q (.bl (decide (i ≤ j))) H) : rLeI (.int i) (.int j) H Q := ⟨i, j, rfl, rfl, q⟩
theorem wp_gtI (q : Q (.bl (decide (j < i))) H) : rGtI (.int i) (.int j) H Q := ⟨i, j, rfl, rfl, q⟩
theorem wp_geI (q : Q (.bl (decide (j ≤ i))) H) : rGeI (.int i) (.int j) H Q := ⟨i, j, rfl, rfl, q⟩
theorem dec_int : decide (V.int i = V.int j) = decide (i = j) := by
  by_cases h : i = j
  · subst h; simp
  · rw [decide_eq_false h, decide_eq_false fun z => h (V.int.inj z)]
theorem dec_bl : decide (V.bl c = V.bl d) = decide (c = d) := by
  by_cases h : c = d
  · subst h; simp
  · rw [decide_eq_false h, decide_eq_false fun z => h (V.bl.inj z)]
theorem wp_eqI (q : Q (.bl (decide (i = j))) H) : rEq (.int i) (.int j) H Q := ⟨rfl, by rw [dec_int]; exact q⟩
theorem wp_neI (q : Q (.bl (!decide (i = j))) H) : rNe (.int i) (.int j) H Q := ⟨rfl, by rw [dec_int]; exact q⟩
theorem wp_eqB (q : Q (.bl (decide (c = d))) H) : rEq (.bl c) (.bl d) H Q := ⟨rfl, by rw [dec_bl]; exact q⟩
theorem wp_neB (q : Q (.bl (!decide (c = d))) H) : rNe (.bl c) (.bl d) H Q := ⟨rfl, by rw [dec_bl]; exact q⟩
theorem wp_isB (q : Q (.bl (decide (c = d))) H) : rIsB (.bl c) (.bl d) H Q := ⟨c, d, rfl, rfl, q⟩
theorem wp_ntB (q : Q (.bl (!decide (c = d))) H) : rNotB (.bl c) (.bl d) H Q := ⟨c, d, rfl, rfl, q⟩
/-! ### tests -/
theorem wp_test (q : te σ H (kBl QB)) : tTest te σ H QB := q
theorem wp_tB (q : te σ H (kBl QB)) : tB te σ H QB := q
theorem wp_kB (q : QB c H) : kBl QB (.bl c) H := ⟨c, rfl, q⟩
theorem wp_not (q : tt σ H (kNot QB)) : tNot tt σ H QB := q
theorem wp_kNot (q : QB (!c) H) : kNot QB c H := q
theorem wp_and (q : tt σ H (kAnd uu σ QB)) : tAnd tt uu σ H QB := q
theorem wp_or (q : tt σ H (kOr uu σ QB)) : tOr tt uu σ H QB := q
theorem wp_kAnd {c d : Bool} (h : c = true → ∀ Q' : Bool → Hp → Prop, Q' d H → uu σ H Q') (q : QB (c && d) H) : kAnd uu σ QB c H := by
  cases c with
  | true => exact h rfl QB q
  | false => exact q
theorem wp_kOr {c d : Bool} (h : c = false → ∀ Q' : Bool → Hp → Prop, Q' d H → uu σ H Q') (q : QB (c || d) H) : kOr uu σ QB c H := by
  cases c with
  | true => exact q
  | false => exact h rfl QB q
theorem wp_kAndS {c d : Bool} (h : c = true → ∀ Q' : Bool → Hp → Prop, (∀ H', Same H H' → Q' d H') → uu σ H Q') (q : ∀ H', Same H H' → QB (c && d) H') : kAnd uu σ QB c H := by
  cases c with
  | true => exact h rfl QB q
  | false => exact q H (Same.refl H)
theorem wp_kOrS {c d : Bool} (h : c = false → ∀ Q' : Bool → Hp → Prop, (∀ H', Same H H' → Q' d H') → uu σ H Q') (q : ∀ H', Same H H' → QB (c || d) H') : kOr uu σ QB c H := by
  cases c with
  | true => exact q H (Same.refl H)
  | false => exact h rfl QB q
theorem wp_andV (q : ta σ H (kAndV tb σ Q)) : tAndV ta tb σ H Q := q
theorem wp_orV (q : ta σ H (kOrV tb σ Q)) : tOrV ta tb σ H Q := q
theorem wp_notV (q : ta σ H (kNotV Q)) : tNotV ta σ H Q := q
theorem wp_kNotV (q : Q (.bl (!c)) H) : kNotV Q (.bl c) H := ⟨c, rfl, q⟩
theorem wp_kAndV {c d : Bool} (h : c = true → ∀ Q' : VK, Q' (.bl d) H → tb σ H Q') (q : Q (.bl (c && d)) H) : kAndV tb σ Q (.bl c) H := by
  refine ⟨c, rfl, ?_⟩
  cases c with
  | true => exact h rfl Q q
  | false => exact q
theorem wp_kOrV {c d : Bool} (h : c = false → ∀ Q' : VK, Q' (.bl d) H → tb σ H Q') (q : Q (.bl (c || d)) H) : kOrV tb σ Q (.bl c) H := by
  refine ⟨c, rfl, ?_⟩
  cases c with
  | true => exact q
  | false => exact h rfl Q q
theorem wp_kAndVS {c d : Bool} (h : c = true → ∀ Q' : VK, (∀ H', Same H H' → Q' (.bl d) H') → tb σ H Q') (q : ∀ H', Same H H' → Q (.bl (c && d)) H') : kAndV tb σ Q (.bl c) H := by
  refine ⟨c, rfl, ?_⟩
  cases c with
  | true => exact h rfl Q q
  | false => exact q H (Same.refl H)
theorem wp_kOrVS {c d : Bool} (h : c = false → ∀ Q' : VK, (∀ H', Same H H' → Q' (.bl d) H') → tb σ H Q') (q : ∀ H', Same H H' → Q (.bl (c || d)) H') : kOrV tb σ Q (.bl c) H := by
  refine ⟨c, rfl, ?_⟩
  cases c with
  | true => exact q H (Same.refl H)
  | false => exact h rfl Q q
/-- a chain a op b op' c of pure parts -/
theorem wp_chain {r r' : R2} {tc : TE} (q : ta σ H fun x H1 => tb σ H1 fun y H2 => r x y H2 (kChain r' y tc σ Q)) : tChain r r' ta tb tc σ H Q := q
theorem wp_kChain {r' : R2} {y : V} {tc : TE} {c d : Bool} (h : c = true → ∀ Q' : VK, Q' (.bl d) H → tc σ H fun w H4 => r' y w H4 Q') (q : Q (.bl (c && d)) H) : kChain r' y tc σ Q (.bl c) H := by
  refine ⟨c, rfl, ?_⟩
  cases c with
  | true => exact h rfl Q q
  | false => exact q
theorem wp_ifE (q : tt σ H (kIfE ta tb σ Q)) : tIf tt ta tb σ H Q := q
theorem wp_kIfE (h1 : c = true → ta σ H Q) (h2 : c = false → tb σ H Q) : kIfE ta tb σ Q c H := by
  cases c with
  | true => exact h1 rfl
  | false => exact h2 rfl
/-! ### known answers -/
theorem kOr_f (q : uu σ H QB) : kOr uu σ QB false H := q
theorem kOr_nt (q : uu σ H QB) : kOr uu σ QB (!true) H := q
theorem kOr_t (q : QB true H) : kOr uu σ QB true H := q
theorem kOr_nf (q : QB true H) : kOr uu σ QB (!false) H := q
theorem kAnd_t (q : uu σ H QB) : kAnd uu σ QB true H := q
theorem kAnd_nf (q : uu σ H QB) : kAnd uu σ QB (!false) H := q
theorem kAnd_f (q : QB false H) : kAnd uu σ QB false H := q
theorem kAnd_nt (q : QB false H) : kAnd uu σ QB (!true) H := q
theorem kOrV_f (q : tb σ H Q) : kOrV tb σ Q (.bl false) H := ⟨false, rfl, q⟩
theorem kOrV_nt (q : tb σ H Q) : kOrV tb σ Q (.bl (!true)) H := ⟨false, rfl, q⟩
theorem kAndV_t (q : tb σ H Q) : kAndV tb σ Q (.bl true) H := ⟨true, rfl, q⟩
theorem kAndV_nf (q : tb σ H Q) : kAndV tb σ Q (.bl (!false)) H := ⟨true, rfl, q⟩
theorem kAndV_f (q : Q (.bl false) H) : kAndV tb σ Q (.bl false) H := ⟨false, rfl, q⟩
theorem kIfS_t (q : t D σ H) : kIfS t u D σ true H := q
theorem kIfS_nf (q : t D σ H) : kIfS t u D σ (!false) H := q
theorem kIfS_f (q : u D σ H) : kIfS t u D σ false H := q
theorem kIfS_nt (q : u D σ H) : kIfS t u D σ (!true) H := q
theorem kNotV_t (q : Q (.bl false) H) : kNotV Q (.bl true) H := ⟨true, rfl, q⟩
theorem kNotV_f (q : Q (.bl true) H) : kNotV Q (.bl false) H := ⟨false, rfl, q⟩
theorem kNot_t (q : QB false H) : kNot QB true H := q
theorem kNot_f (q : QB true H) : kNot QB false H := q
theorem kOr_not_t : (false || c) = c := by simp
/-! ### statements -/
theorem wp_seq (q : t { D with nx := u D } σ H) : tSeq t u D σ H := q
theorem wp_asgN {n : Nat} (q : te σ H (kSet n D σ)) : tAsg te (gName n) D σ H := q
theorem wp_asg {g : TG} (q : te σ H (kAsg g D σ)) : tAsg te g D σ H := q
theorem wp_kSet {n : Nat} (h : σ.set n (some v) = σ') (q : D.nx σ' H) : kSet n D σ v H := by
  show D.nx (σ.set n (some v)) H
  rw [h]
  exact q
theorem wp_kAsg {g : TG} (q : g v σ H D.nx) : kAsg g D σ v H := q
theorem wp_nx {n : L2.St → Hp → Prop} {rt : VK} {bk ct : L2.St → Hp → Prop} (q : n σ H) : Ends.nx (Ends.mk n rt bk ct) σ H := q
theorem wp_rt {n : L2.St → Hp → Prop} {rt : VK} {bk ct : L2.St → Hp → Prop} (q : rt v H) : Ends.rt (Ends.mk n rt bk ct) v H := q
theorem wp_next (q : D.nx σ H) : tNext D σ H := q
theorem wp_ret (q : te σ H D.rt) : tRet te D σ H := q
theorem wp_drop (q : te σ H (kDrop D σ)) : tDrop te D σ H := q
theorem wp_kDrop (q : D.nx σ H) : kDrop D σ v H := q
theorem wp_ifS (q : tt σ H (kIfS t u D σ)) : tIfS tt t u D σ H := q
theorem wp_kIfS (h1 : c = true → t D σ H) (h2 : c = false → u D σ H) : kIfS t u D σ c H := by
  cases c with
  | true => exact h1 rfl
  | false => exact h2 rfl
/-! ### arguments, calls -/
theorem wp_nil {Q : List V → Hp → Prop} (q : Q [] H) : tNil σ H Q := q
theorem wp_cons {Q : List V → Hp → Prop} {tr : TA} (q : te σ H fun x H1 => tr σ H1 fun xs H2 => Q (x :: xs) H2) : tCons te tr σ H Q := q
theorem wp_call {sp : Sp} {dvs : List V} {E : XK} {ta : TA} (q : ta σ H (kCall sp dvs E Q)) : tCall sp dvs E ta σ H Q := q
theorem wp_kCall {sp : Sp} {E : XK} (q : sp vs H Q E) : kCall sp [] E Q vs H := by
  show sp (vs ++ []) H Q E
  rw [List.append_nil]
  exact q
theorem wp_tCB {r : List V → Hp → VK → Prop} {ta : TA} (q : ta σ H (kCB r Q)) : tCB r ta σ H Q := q
theorem wp_kCB {r : List V → Hp → VK → Prop} (q : r vs H Q) : kCB r Q vs H := q
theorem wp_len (h : SqL K H a xs) (q : Q (.int xs.length) H) : cLen K [.ref a] H Q := ⟨a, xs, rfl, .inl h, q⟩
theorem wp_lenI (h : SqL K H a (ns.map V.int)) (q : Q (.int ns.length) H) : cLen K [.ref a] H Q := wp_len h (by rw [List.length_map]; exact q)
theorem wp_lenT (h : SqT K H a xs) (q : Q (.int xs.length) H) : cLen K [.ref a] H Q := ⟨a, xs, rfl, .inr h, q⟩
theorem wp_listT (h : SqT K H a xs) (q : ∀ l, H l = none → Q (.ref l) (upd H l (.lst xs))) : cList K [.ref a] H Q := ⟨a, xs, rfl, .inr h, q⟩
theorem wp_ixT {n : Nat} (h : SqT K H a xs) (e : xs[n]? = some v) (q : Q v H) : rIxT K (.ref a) (.int (n : Int)) H Q := ⟨a, xs, _, v, rfl, rfl, h, atI_nat e, q⟩
theorem wp_ixT0 (h : SqT K H a (v :: xs)) (q : Q v H) : rIxT K (.ref a) (.int 0) H Q := ⟨a, _, _, v, rfl, rfl, h, atI_nat (j := 0) rfl, q⟩
theorem wp_ixT1 (h : SqT K H a (x :: v :: xs)) (q : Q v H) : rIxT K (.ref a) (.int 1) H Q := ⟨a, _, _, v, rfl, rfl, h, atI_nat (j := 1) rfl, q⟩
theorem wp_ixT2 (h : SqT K H a (x :: y :: v :: xs)) (q : Q v H) : rIxT K (.ref a) (.int 2) H Q := ⟨a, _, _, v, rfl, rfl, h, atI_nat (j := 2) rfl, q⟩
theorem wp_sum (h : SqL K H a (ns.map V.int)) (q : Q (.int ns.sum) H) : rSum K [.ref a] H Q := ⟨a, ns, rfl, h, q⟩
theorem wp_list (h : SqL K H a xs) (q : ∀ l, H l = none → Q (.ref l) (upd H l (.lst xs))) : cList K [.ref a] H Q := ⟨a, xs, rfl, .inl h, q⟩
theorem wp_max2 (q : Q (.int (if j > i then j else i)) H) : cMax2 [.int i, .int j] H Q := ⟨i, j, rfl, q⟩
theorem wp_min2 (q : Q (.int (if j < i then j else i)) H) : cMin2 [.int i, .int j] H Q := ⟨i, j, rfl, q⟩
/-! ### lists -/
/-- the item at a place -/
def nth (ns : List Int) (i : Int) : Int := ns.getD i.toNat 0
theorem atI_nth (h0 : 0 ≤ i) (h1 : i < ns.length) : atI (ns.map V.int) i = some (.int (nth ns i)) := by
  have hl : i.toNat < ns.length := by omega
  unfold atI ixN nth
  rw [List.length_map, if_pos h0, if_pos h1]
  show (ns.map V.int)[i.toNat]? = _
  rw [List.getElem?_map, List.getD_eq_getElem?_getD, List.getElem?_eq_getElem hl]
  rfl
theorem atI_neg (h0 : i < 0) (h1 : 0 ≤ i + ns.length) : atI (ns.map V.int) i = some (.int (nth ns (i + ns.length))) := by
  have hl : (i + ns.length).toNat < ns.length := by omega
  unfold atI ixN nth
  rw [List.length_map, if_neg (by omega), if_pos (by omega)]
  show (ns.map V.int)[(i + ns.length).toNat]? = _
  rw [List.getElem?_map, List.getD_eq_getElem?_getD, List.getElem?_eq_getElem hl]
  rfl
theorem wp_ixL (h : SqL K H a (ns.map V.int)) (h0 : 0 ≤ i) (h1 : i < ns.length) (q : Q (.int (nth ns i)) H) : rIxL K (.ref a) (.int i) H Q :=
  ⟨a, _, i, _, rfl, rfl, h, atI_nth h0 h1, q⟩
theorem wp_ixN (h : SqL K H a (ns.map V.int)) (h0 : i < 0) (h1 : 0 ≤ i + ns.length) (q : Q (.int (nth ns (i + ns.length))) H) : rIxL K (.ref a) (.int i) H Q :=
  ⟨a, _, i, _, rfl, rfl, h, atI_neg h0 h1, q⟩
theorem wp_lst {ta : TA} (q : ta σ H (kLst Q)) : tLst ta σ H Q := q
theorem wp_tup {ta : TA} (q : ta σ H (kTup Q)) : tTup ta σ H Q := q
theorem sz (n : Nat) (h : n ≤ 100000) : n ≤ sizeLine := Nat.le_trans h (by decide)
theorem szl {n : Nat} (h : n < 100000) : n < sizeLine := Nat.lt_of_lt_of_le h (by decide)
theorem wp_lst0 (q : ∀ p, H p = none → Q (.ref p) (upd H p (.lst (([] : List Int).map V.int)))) : kLst Q [] H := ⟨Nat.zero_le _, q⟩
theorem wp_lst1 (q : ∀ p, H p = none → Q (.ref p) (upd H p (.lst (([i] : List Int).map V.int)))) : kLst Q [.int i] H := ⟨sz _ (by decide : 1 ≤ _), q⟩
theorem wp_lst2 (q : ∀ p, H p = none → Q (.ref p) (upd H p (.lst (([i, j] : List Int).map V.int)))) : kLst Q [.int i, .int j] H := ⟨sz _ (by decide : 2 ≤ _), q⟩
theorem wp_lst3 {k : Int} (q : ∀ p, H p = none → Q (.ref p) (upd H p (.lst (([i, j, k] : List Int).map V.int)))) : kLst Q [.int i, .int j, .int k] H := ⟨sz _ (by decide : 3 ≤ _), q⟩
theorem wp_lst4 {k l : Int} (q : ∀ p, H p = none → Q (.ref p) (upd H p (.lst (([i, j, k, l] : List Int).map V.int)))) : kLst Q [.int i, .int j, .int k, .int l] H := ⟨sz _ (by decide : 4 ≤ _), q⟩
theorem wp_lst5 {k l m : Int} (q : ∀ p, H p = none → Q (.ref p) (upd H p (.lst (([i, j, k, l, m] : List Int).map V.int)))) : kLst Q [.int i, .int j, .int k, .int l, .int m] H := ⟨sz _ (by decide : 5 ≤ _), q⟩
theorem wp_lstR (h : xs.length ≤ 100000) (q : ∀ p, H p = none → Q (.ref p) (upd H p (.lst xs))) : kLst Q xs H := ⟨sz _ h, q⟩
theorem wp_kTup (h : xs.length ≤ 100000) (q : ∀ p, H p = none → Q (.ref p) (upd H p (.tup xs))) : kTup Q xs H := ⟨sz _ h, q⟩
theorem wp_tBM {T : String} {r : V → List V → Hp → VK → Prop} {to : TE} {ta : TA} (q : to σ H (kBM K T r ta σ Q)) : tBM K T r to ta σ H Q := q
theorem wp_tBM0 {T : String} {r : V → List V → Hp → VK → Prop} {to : TE} (q : to σ H (kBM0 K T r Q)) : tBM0 K T r to σ H Q := q
theorem wp_kBM {r : V → List V → Hp → VK → Prop} {ta : TA} (h : H a = some (.lst xs)) (q : ta σ H fun xs H2 => r (.ref a) xs H2 Q) : kBM K "list" r ta σ Q (.ref a) H :=
  ⟨.inl ⟨rfl, _, SqL.of h⟩, q⟩
theorem wp_kBM0 {r : V → List V → Hp → VK → Prop} (h : H a = some (.lst xs)) (q : r (.ref a) [] H Q) : kBM0 K "list" r Q (.ref a) H := ⟨.inl ⟨rfl, _, SqL.of h⟩, q⟩
theorem wp_appI (h : H a = some (.lst (ns.map V.int))) (hz : ns.length < 100000) (q : Q .non (upd H a (.lst ((ns ++ [i]).map V.int)))) : rAppend (.ref a) [.int i] H Q := by
  refine ⟨a, _, _, rfl, rfl, h, szl (by rw [List.length_map]; exact hz), ?_⟩
  rw [List.map_append] at q
  exact q
theorem wp_app (h : H a = some (.lst xs)) (hz : xs.length < 100000) (q : Q .non (upd H a (.lst (xs ++ [v])))) : rAppend (.ref a) [v] H Q := ⟨a, xs, v, rfl, rfl, h, szl hz, q⟩
/-! ### slices -/
theorem wp_sl {r : V → Option Int → Option Int → Hp → VK → Prop} {tl th : TO} (q : te σ H fun x H1 => tl σ H1 fun l H2 => th σ H2 fun u H3 => r x l u H3 Q) : tSl r te tl th σ H Q := q
theorem wp_part {Q : Option Int → Hp → Prop} (q : te σ H (kPart Q)) : tPart te σ H Q := q
theorem wp_kPart {Q : Option Int → Hp → Prop} (q : Q (some i) H) : kPart Q (.int i) H := ⟨i, rfl, q⟩
theorem wp_noPart {Q : Option Int → Hp → Prop} (q : Q none H) : tNoPart σ H Q := q
/-- a slice of ints -/
def cut (ns : List Int) (lo hi : Option Int) : List Int := (ns.drop (HT.sIx ns.length 0 lo)).take (HT.sIx ns.length ns.length hi - HT.sIx ns.length 0 lo)
theorem cutV_map (lo hi : Option Int) : cutV (ns.map V.int) lo hi = (cut ns lo hi).map V.int := by
  unfold cutV cut
  rw [List.length_map, List.map_take, List.map_drop]
theorem wp_slI {lo hi : Option Int} (h : SqL K H a (ns.map V.int)) (q : ∀ p, H p = none → Q (.ref p) (upd H p (.lst ((cut ns lo hi).map V.int)))) : rSlL K (.ref a) lo hi H Q :=
  ⟨a, _, rfl, h, fun p hp => by rw [cutV_map]; exact q p hp⟩
theorem wp_slR {lo hi : Option Int} (h : SqL K H a xs) (q : ∀ p, H p = none → Q (.ref p) (upd H p (.lst (cutV xs lo hi)))) : rSlL K (.ref a) lo hi H Q := ⟨a, _, rfl, h, q⟩
def kRev (K : PySem.W.Frag) (Q : VK) : VK := fun x H1 => ∃ a xs, x = .ref a ∧ SqL K H1 a xs ∧ ∀ p, H1 p = none → Q (.ref p) (upd H1 p (.lst xs.reverse))
theorem wp_rev (q : te σ H (kRev K Q)) : tRevL K te σ H Q := q
theorem wp_revI (h : SqL K H a (ns.map V.int)) (q : ∀ p, H p = none → Q (.ref p) (upd H p (.lst (ns.reverse.map V.int)))) : kRev K Q (.ref a) H :=
  ⟨a, _, rfl, h, fun p hp => by rw [← List.map_reverse]; exact q p hp⟩
theorem wp_revR (h : SqL K H a xs) (q : ∀ p, H p = none → Q (.ref p) (upd H p (.lst xs.reverse))) : kRev K Q (.ref a) H := ⟨a, _, rfl, h, q⟩
theorem wp_catI (h : H a = some (.lst (ns.map V.int))) (h' : H b = some (.lst (ms.map V.int))) (hz : ns.length + ms.length ≤ 100000) (q : ∀ p, H p = none → Q (.ref p) (upd H p (.lst ((ns ++ ms).map V.int)))) : rCat (.ref a) (.ref b) H Q :=
  ⟨a, b, _, _, rfl, rfl, h, h', sz _ (by rw [List.length_map, List.length_map]; exact hz), fun p hp => by rw [← List.map_append]; exact q p hp⟩
theorem wp_catR (h : H a = some (.lst xs)) (h' : H b = some (.lst ys)) (hz : xs.length + ys.length ≤ 100000) (q : ∀ p, H p = none → Q (.ref p) (upd H p (.lst (xs ++ ys)))) : rCat (.ref a) (.ref b) H Q :=
  ⟨a, b, _, _, rfl, rfl, h, h', sz _ hz, q⟩
/-! ### == of lists of ints -/
theorem dpAll_ints : ∀ ns : List Int, DpAll K H (ns.map V.int) (ns.map PyData.int)
  | [] => .nil
  | n :: r => .cons (.int n) (dpAll_ints r)
theorem eqvAll_ints : ∀ ns ms : List Int, PyData.eqvAll (ns.map PyData.int) (ms.map PyData.int) = decide (ns = ms)
  | [], [] => by simp [PyData.eqvAll]
  | [], _ :: _ => by simp [PyData.eqvAll]
  | _ :: _, [] => by simp [PyData.eqvAll]
  | n :: r, m :: s => by
    simp only [List.map_cons, PyData.eqvAll, PyData.eqv, eqvAll_ints r s]
    by_cases e : n = m <;> by_cases f : r = s <;> simp [e, f]
theorem canLay_ints : ∀ ns : List Int, PyData.canLayAll0 (ns.map PyData.int) = true
  | [] => by simp [PyData.canLayAll0]
  | n :: r => by simp [PyData.canLayAll0, PyData.canLay0, canLay_ints r]
theorem depth_ints : ∀ ns : List Int, PyData.depthAll (ns.map PyData.int) = 0
  | [] => by simp [PyData.depthAll]
  | n :: r => by simp [PyData.depthAll, PyData.depth, depth_ints r]
theorem shaped_ints (ns : List Int) : SeqAt.shaped (.list (ns.map PyData.int)) = true := by
  simp [SeqAt.shaped, PyData.canLay0, PyData.depth, canLay_ints, depth_ints]
theorem wp_eqL (h : SqL K H a (ns.map V.int)) (h' : SqL K H b (ms.map V.int)) (q : Q (.bl (decide (ns = ms))) H) : rEqD K (.ref a) (.ref b) H Q := by
  refine ⟨.list (ns.map PyData.int), .list (ms.map PyData.int), .lst h (dpAll_ints ns), .lst h' (dpAll_ints ms), shaped_ints _, shaped_ints _, ?_⟩
  show Q (.bl (PyData.eqvAll _ _)) H
  rw [eqvAll_ints]
  exact q
theorem wp_neL (h : SqL K H a (ns.map V.int)) (h' : SqL K H b (ms.map V.int)) (q : Q (.bl (!decide (ns = ms))) H) : rNeD K (.ref a) (.ref b) H Q := by
  refine ⟨.list (ns.map PyData.int), .list (ms.map PyData.int), .lst h (dpAll_ints ns), .lst h' (dpAll_ints ms), shaped_ints _, shaped_ints _, ?_⟩
  show Q (.bl (!PyData.eqvAll _ _)) H
  rw [eqvAll_ints]
  exact q
/-! ### loops -/
theorem wp_for {wi : TI} {g : TG} (q : wi σ H (kFor g t D σ)) : tFor wi g t D σ H := q
theorem wp_lc {wi : TI} {g : TG} {ws : List Nat} (q : wi σ H (kLc g tt te ws σ Q)) : tLc wi g tt te ws σ H Q := q
theorem wp_iList {R : It → Hp → Prop} (q : te σ H (kIList K R)) : iList K te σ H R := q
theorem wp_kIList {R : It → Hp → Prop} (h : SqL K H a xs) (q : R (Itl K a) H) : kIList K R (.ref a) H := ⟨a, rfl, ⟨xs, h⟩, q⟩
theorem wp_iRng1 {R : It → Hp → Prop} {ta : TA} (q : ta σ H (kRng1 R)) : iRng1 ta σ H R := q
theorem wp_kRng1 {R : It → Hp → Prop} (h : -100000000 ≤ i ∧ i < 100000000) (q : R (Itr 0 i.toNat) H) : kRng1 R [.int i] H := ⟨i, rfl, by omega, by omega, q⟩
theorem wp_iRng2 {R : It → Hp → Prop} {ta : TA} (q : ta σ H (kRng2 R)) : iRng2 ta σ H R := q
theorem wp_kRng2 {R : It → Hp → Prop} (h : -100000000 ≤ i ∧ i < 100000000) (h' : -100000000 ≤ j ∧ j < 100000000) (q : R (Itr i (j - i).toNat) H) : kRng2 R [.int i, .int j] H := ⟨i, j, rfl, by omega, q⟩
theorem wp_iEnum {R : It → Hp → Prop} {ta : TA} (q : ta σ H (kEnum K R)) : iEnum K ta σ H R := q
theorem wp_kEnum {R : It → Hp → Prop} (h : SqL K H a xs) (q : R (Ite K a) H) : kEnum K R [.ref a] H := ⟨a, xs, rfl, h, q⟩
theorem wp_gName {n : Nat} {Q : L2.St → Hp → Prop} (h : σ.set n (some v) = σ') (q : Q σ' H) : gName n v σ H Q := by
  show Q (σ.set n (some v)) H
  rw [h]
  exact q
theorem wp_gTup {n : Nat} {g : TGs} {Q : L2.St → Hp → Prop} (h : SqT K H a xs) (hl : xs.length = n) (q : g xs σ H Q) : gTup K n g (.ref a) σ H Q := ⟨a, xs, rfl, h, hl, q⟩
theorem wp_gCons {g : TG} {gs : TGs} {Q : L2.St → Hp → Prop} (q : g v σ H fun σ' H' => gs xs σ' H' Q) : gCons g gs (v :: xs) σ H Q := ⟨v, xs, rfl, q⟩
theorem wp_gNil {Q : L2.St → Hp → Prop} (q : Q σ H) : gNil [] σ H Q := ⟨rfl, q⟩
/-- a for over a list of ints -/
theorem forI {g : TG} (Pv : Nat → L2.St → Hp → Prop) (h0 : Pv 0 σ H) (hl : ∀ i σ' H', i ≤ ns.length → Pv i σ' H' → SqL K H' a (ns.map V.int))
    (hs : ∀ (i : Nat) σ' H', i < ns.length → Pv i σ' H' → g (.int (nth ns i)) σ' H' fun σ2 H2 => t { D with nx := Pv (i + 1), ct := Pv (i + 1), bk := D.nx } σ2 H2) (hd : ∀ σ' H', Pv ns.length σ' H' → D.nx σ' H') : kFor g t D σ (Itl K a) H := by
  refine for_list (K := K) (a := a) (xs := ns.map V.int) Pv h0 (fun i σ' H' hi p => hl i σ' H' (by rw [List.length_map] at hi; exact hi) p) (fun i x σ' H' e p => ?_) (fun σ' H' p => hd σ' H' (by rw [List.length_map] at p; exact p))
  have hi : i < ns.length := by
    have := (List.getElem?_eq_some_iff.mp e).1
    rw [List.length_map] at this
    exact this
  have ex : x = .int (nth ns i) := by
    have q := atI_nth (ns := ns) (i := (i : Int)) (by omega) (by omega)
    unfold nth
    rw [List.getElem?_map, List.getElem?_eq_getElem hi] at e
    rw [← Option.some.inj e]
    simp [List.getD_eq_getElem?_getD, hi]
  subst ex
  exact hs i σ' H' hi p
/-- a for over a list of anything -/
theorem forR {g : TG} (Pv : Nat → L2.St → Hp → Prop) (h0 : Pv 0 σ H) (hl : ∀ i σ' H', i ≤ xs.length → Pv i σ' H' → SqL K H' a xs)
    (hs : ∀ (i : Nat) x σ' H', xs[i]? = some x → Pv i σ' H' → g x σ' H' fun σ2 H2 => t { D with nx := Pv (i + 1), ct := Pv (i + 1), bk := D.nx } σ2 H2) (hd : ∀ σ' H', Pv xs.length σ' H' → D.nx σ' H') : kFor g t D σ (Itl K a) H :=
  for_list (K := K) (a := a) (xs := xs) Pv h0 hl hs hd
theorem forN {g : TG} {lo : Int} {n : Nat} (Pv : Nat → L2.St → Hp → Prop) (h0 : Pv 0 σ H)
    (hs : ∀ (i : Nat) σ' H', i < n → Pv i σ' H' → g (.int (lo + i)) σ' H' fun σ2 H2 => t { D with nx := Pv (i + 1), ct := Pv (i + 1), bk := D.nx } σ2 H2) (hd : ∀ σ' H', Pv n σ' H' → D.nx σ' H') : kFor g t D σ (Itr lo n) H :=
  for_range Pv h0 hs hd
/-- a for over enumerate of a list of ints -/
theorem forE {g : TG} (Pv : Nat → L2.St → Hp → Prop) (h0 : Pv 0 σ H) (hl : ∀ i σ' H', i ≤ ns.length → Pv i σ' H' → SqL K H' a (ns.map V.int))
    (hs : ∀ (i : Nat) σ' H' T, i < ns.length → Pv i σ' H' → H' T = none → g (.ref T) σ' (upd H' T (.tup [.int i, .int (nth ns i)])) fun σ2 H2 => t { D with nx := Pv (i + 1), ct := Pv (i + 1), bk := D.nx } σ2 H2) (hd : ∀ σ' H', Pv ns.length σ' H' → D.nx σ' H') : kFor g t D σ (Ite K a) H := by
  refine for_it (walk_enum (K := K) (a := a) (xs := ns.map V.int)) Pv h0 (fun i σ' H' hi p => hl i σ' H' (by rw [List.length_map] at hi; exact hi) p) (fun i x σ' H' H2 hi p y => ?_) (fun σ' H' p => hd σ' H' (by rw [List.length_map] at p; exact p))
  rw [List.length_map] at hi
  obtain ⟨T, x1, y1, rfl, hn, rfl, e1, e2⟩ := y
  have e1' : x1 = .int i := (Option.some.inj e1).symm
  have ey : y1 = .int (nth ns i) := by
    unfold nth
    have e2' : (ns.map V.int)[i]? = some y1 := e2
    rw [List.getElem?_map, List.getElem?_eq_getElem hi] at e2'
    rw [← Option.some.inj e2']
    simp [List.getD_eq_getElem?_getD, hi]
  subst e1' ey
  exact hs i σ' H' T hi p hn
/-- a for over enumerate of a list of anything -/
theorem forER {g : TG} (Pv : Nat → L2.St → Hp → Prop) (h0 : Pv 0 σ H) (hl : ∀ i σ' H', i ≤ xs.length → Pv i σ' H' → SqL K H' a xs)
    (hs : ∀ (i : Nat) x σ' H' T, xs[i]? = some x → Pv i σ' H' → H' T = none → g (.ref T) σ' (upd H' T (.tup [.int i, x])) fun σ2 H2 => t { D with nx := Pv (i + 1), ct := Pv (i + 1), bk := D.nx } σ2 H2) (hd : ∀ σ' H', Pv xs.length σ' H' → D.nx σ' H') : kFor g t D σ (Ite K a) H := by
  refine for_it (walk_enum (K := K) (a := a) (xs := xs)) Pv h0 hl (fun i x σ' H' H2 hi p y => ?_) hd
  obtain ⟨T, x1, y1, rfl, hn, rfl, e1, e2⟩ := y
  cases Option.some.inj e1
  exact hs i y1 σ' H' T e2 p hn
/-- while True: a word with a number that falls; nothing that stood is changed -/
theorem whileTS (R : Nat → L2.St → Prop) (m0 : Nat) (h0 : R m0 σ)
    (hs : ∀ (m : Nat) σ' H', R m σ' → Same H H' → t { D with nx := fun σ2 H2 => ∃ m', m' < m ∧ R m' σ2 ∧ Same H H2, ct := fun σ2 H2 => ∃ m', m' < m ∧ R m' σ2 ∧ Same H H2, bk := D.nx } σ' H') : tWhile (tB (tC (.bl true))) t D σ H := by
  refine ⟨fun m σ' H' => R m σ' ∧ Same H H', ⟨m0, h0, Same.refl H⟩, ?_⟩
  rintro m σ' H' ⟨r, s⟩
  refine ⟨true, rfl, ?_⟩
  exact ⟨_, fun σ2 H2 z => z, hs m σ' H' r s⟩
/-- loops that change nothing that stood: the word speaks of the slots alone -/
theorem forIS {g : TG} (ha : SqL K H a (ns.map V.int)) (R : Nat → L2.St → Prop) (h0 : R 0 σ)
    (hs : ∀ (i : Nat) σ' H', i < ns.length → R i σ' → Same H H' → g (.int (nth ns i)) σ' H' fun σ2 H2 => t { D with nx := fun σ3 H3 => R (i + 1) σ3 ∧ Same H H3, ct := fun σ3 H3 => R (i + 1) σ3 ∧ Same H H3, bk := D.nx } σ2 H2)
    (hd : ∀ σ' H', R ns.length σ' → Same H H' → D.nx σ' H') : kFor g t D σ (Itl K a) H :=
  forI (ns := ns) (fun i σ' H' => R i σ' ∧ Same H H') ⟨h0, Same.refl H⟩ (fun i σ' H' _ p => p.2.seq ha) (fun i σ' H' hi p => hs i σ' H' hi p.1 p.2) (fun σ' H' p => hd σ' H' p.1 p.2)
theorem forRS {g : TG} (ha : SqL K H a xs) (R : Nat → L2.St → Prop) (h0 : R 0 σ)
    (hs : ∀ (i : Nat) x σ' H', xs[i]? = some x → R i σ' → Same H H' → g x σ' H' fun σ2 H2 => t { D with nx := fun σ3 H3 => R (i + 1) σ3 ∧ Same H H3, ct := fun σ3 H3 => R (i + 1) σ3 ∧ Same H H3, bk := D.nx } σ2 H2)
    (hd : ∀ σ' H', R xs.length σ' → Same H H' → D.nx σ' H') : kFor g t D σ (Itl K a) H :=
  forR (xs := xs) (fun i σ' H' => R i σ' ∧ Same H H') ⟨h0, Same.refl H⟩ (fun i σ' H' _ p => p.2.seq ha) (fun i x σ' H' hi p => hs i x σ' H' hi p.1 p.2) (fun σ' H' p => hd σ' H' p.1 p.2)
theorem forNS {g : TG} {lo : Int} {n : Nat} (R : Nat → L2.St → Prop) (h0 : R 0 σ)
    (hs : ∀ (i : Nat) σ' H', i < n → R i σ' → Same H H' → g (.int (lo + i)) σ' H' fun σ2 H2 => t { D with nx := fun σ3 H3 => R (i + 1) σ3 ∧ Same H H3, ct := fun σ3 H3 => R (i + 1) σ3 ∧ Same H H3, bk := D.nx } σ2 H2)
    (hd : ∀ σ' H', R n σ' → Same H H' → D.nx σ' H') : kFor g t D σ (Itr lo n) H :=
  forN (fun i σ' H' => R i σ' ∧ Same H H') ⟨h0, Same.refl H⟩ (fun i σ' H' hi p => hs i σ' H' hi p.1 p.2) (fun σ' H' p => hd σ' H' p.1 p.2)
theorem forES {g : TG} (ha : SqL K H a (ns.map V.int)) (R : Nat → L2.St → Prop) (h0 : R 0 σ)
    (hs : ∀ (i : Nat) σ' H' T, i < ns.length → R i σ' → Same H H' → H' T = none → g (.ref T) σ' (upd H' T (.tup [.int i, .int (nth ns i)])) fun σ2 H2 => t { D with nx := fun σ3 H3 => R (i + 1) σ3 ∧ Same H H3, ct := fun σ3 H3 => R (i + 1) σ3 ∧ Same H H3, bk := D.nx } σ2 H2)
    (hd : ∀ σ' H', R ns.length σ' → Same H H' → D.nx σ' H') : kFor g t D σ (Ite K a) H :=
  forE (ns := ns) (fun i σ' H' => R i σ' ∧ Same H H') ⟨h0, Same.refl H⟩ (fun i σ' H' _ p => p.2.seq ha) (fun i σ' H' T hi p nT => hs i σ' H' T hi p.1 p.2 nT) (fun σ' H' p => hd σ' H' p.1 p.2)
end
end Bs

namespace Bs
open PySem L2
/-- the classes' addresses -/
structure Cs where
  Answer : Addr := 0
  Best : Addr := 0
  Steep : Addr := 0
  Around : Addr := 0
  Exact : Addr := 0
  Never : Addr := 0
  Several : Addr := 0
  StretchError : Addr := 0
  BadRow : Addr := 0
  BadLeast : Addr := 0
  BadTotal : Addr := 0
  BadMany : Addr := 0
/-- a law's promise -/
def spLaw (K : PySem.W.Frag) : Sp := fun vs H Q _ => ∃ (a : Addr) (ns : List Int), vs = [.ref a] ∧ SqL K H a (ns.map V.int) ∧ ns.length ≤ 63 ∧ ∀ H', Q (.bl true) H'
theorem len1 {vs : List V} {a : V} (h : vs = [a]) : vs.length = 1 := by rw [h]; rfl

section
variable {K : PySem.W.Frag} {σ σ' : L2.St} {H H' : Hp} {Q : VK} {QB : Bool → Hp → Prop} {ta tb te : TE} {tt uu : TT} {t u : TS} {D : Ends} {v x y : V} {i j : Int} {r : R2} {a b p : Addr} {ns ms : List Int} {xs ys vs : List V} {c d : Bool}
/-! ### comprehensions -/
theorem lcW {J : It} {n : Nat} {G : Hp → Prop} {X : Nat → V} {g : TG} {ws : List Nat} {σi : Nat → L2.St} (w : Walk J n G (fun i H x H' => H' = H ∧ x = X i)) (b : Nat → Bool) (v : Nat → V) (hn : n ≤ 100000)
    (hG : ∀ H', Same H H' → G H') (hg : ∀ i H' k, k (σi i) H' → g (X i) (wipe σ ws) H' k) (hw : ∀ i, wipe (σi i) ws = wipe σ ws)
    (ht : ∀ i H', i < n → Same H H' → ∀ Q' : Bool → Hp → Prop, (∀ H'', Same H' H'' → Q' (b i) H'') → tt (σi i) H' Q')
    (he : ∀ i H', i < n → b i = true → Same H H' → ∀ Q' : VK, (∀ H'', Same H' H'' → Q' (v i) H'') → te (σi i) H' Q')
    (q : ∀ p H', H p = none → Same H H' → H' p = some (.lst (((List.range n).filter b).map v)) → Q (.ref p) H') : kLc g tt te ws σ Q J H := by
  intro D hD
  refine lc_it w (Qd := fun H' => Q (.ref D) H') (fun i H' => Same H H' ∧ H' D = some (.lst (((List.range i).filter b).map v))) ⟨same_new (Same.refl H) hD, upd_same⟩ (fun i H' _ p => hG H' p.1) ?_ (fun H' p => q D H' hD p.1 p.2)
  rintro i x H1 H2 hi ⟨s1, d1⟩ ⟨rfl, rfl⟩
  refine hg i _ _ ⟨hw i, ht i H2 hi s1 _ fun H3 s3 => ?_⟩
  have d3 := s3 _ _ d1
  have e : ((List.range (i + 1)).filter b).map v = if b i = true then ((List.range i).filter b).map v ++ [v i] else ((List.range i).filter b).map v := by
    rw [List.range_succ, List.filter_append, List.map_append]
    cases hb : b i <;> simp [hb]
  by_cases hb : b i = true
  · rw [if_pos hb] at e
    rw [if_pos hb]
    refine he i H3 hi hb (s1.trans s3) _ fun H4 s4 => ⟨_, s4 _ _ d3, szl ?_, same_mut ((s1.trans s3).trans s4) hD, ?_⟩
    · rw [List.length_map]
      have := List.length_filter_le b (List.range i)
      rw [List.length_range] at this
      omega
    · rw [e]
      exact upd_same
  · rw [if_neg hb] at e
    rw [if_neg hb, e]
    exact ⟨s1.trans s3, d3⟩
theorem map_range_nth {α : Type} (f : Int → α) (ns : List Int) : (List.range ns.length).map (fun i : Nat => f (nth ns i)) = ns.map f := by
  apply List.ext_getElem
  · simp
  · intro i h1 h2
    simp at h1
    simp [nth, h1]
theorem walkI {ns : List Int} : Walk (Itl K a) ns.length (fun H => SqL K H a (ns.map V.int)) (fun i H x H' => H' = H ∧ x = .int (nth ns i)) := by
  have w := walk_list (K := K) (a := a) (xs := ns.map V.int)
  rw [List.length_map] at w
  refine w.mono (fun _ h => h) fun i H x H' hi _ y => ⟨y.1, ?_⟩
  have e := y.2
  rw [List.getElem?_map, List.getElem?_eq_getElem hi] at e
  rw [← Option.some.inj e]
  simp [nth, hi]
/-- over a list of ints, each item's value by f -/
theorem lcI {k : Nat} (f : Int → V) (h : SqL K H a (ns.map V.int)) (hn : ns.length ≤ 100000) (hw : ∀ x : V, wipe ((wipe σ [k]).set k (some x)) [k] = wipe σ [k])
    (he : ∀ (i : Nat) H', i < ns.length → Same H H' → ∀ Q' : VK, (∀ H'', Same H' H'' → Q' (f (nth ns i)) H'') → te ((wipe σ [k]).set k (some (.int (nth ns i)))) H' Q')
    (q : ∀ p H', H p = none → Same H H' → H' p = some (.lst (ns.map f)) → Q (.ref p) H') : kLc (gName k) tYes te [k] σ Q (Itl K a) H := by
  refine lcW (σi := fun i => (wipe σ [k]).set k (some (.int (nth ns i)))) (walkI (ns := ns)) (fun _ => true) (fun i => f (nth ns i)) hn (fun H' s => s.seq h) (fun i H' k' z => z) (fun i => hw _) (fun i H' _ _ Q' z => z H' (Same.refl H')) (fun i H' hi _ s => he i H' hi s) fun p H' np s hp => ?_
  refine q p H' np s ?_
  rw [hp, ← map_range_nth f ns]
  congr 2
  rw [List.filter_eq_self.mpr (fun _ _ => rfl)]
theorem lcI_int {k : Nat} (f : Int → Int) (h : SqL K H a (ns.map V.int)) (hn : ns.length ≤ 100000) (hw : ∀ x : V, wipe ((wipe σ [k]).set k (some x)) [k] = wipe σ [k])
    (he : ∀ (i : Nat) H', i < ns.length → Same H H' → ∀ Q' : VK, (∀ H'', Same H' H'' → Q' (.int (f (nth ns i))) H'') → te ((wipe σ [k]).set k (some (.int (nth ns i)))) H' Q')
    (q : ∀ p H', H p = none → Same H H' → H' p = some (.lst ((ns.map f).map V.int)) → Q (.ref p) H') : kLc (gName k) tYes te [k] σ Q (Itl K a) H :=
  lcI (fun n => .int (f n)) h hn hw he fun p H' np s hp => q p H' np s (by rw [hp, List.map_map]; rfl)
theorem lcI_bl {k : Nat} (f : Int → Bool) (h : SqL K H a (ns.map V.int)) (hn : ns.length ≤ 100000) (hw : ∀ x : V, wipe ((wipe σ [k]).set k (some x)) [k] = wipe σ [k])
    (he : ∀ (i : Nat) H', i < ns.length → Same H H' → ∀ Q' : VK, (∀ H'', Same H' H'' → Q' (.bl (f (nth ns i))) H'') → te ((wipe σ [k]).set k (some (.int (nth ns i)))) H' Q')
    (q : ∀ p H', H p = none → Same H H' → H' p = some (.lst ((ns.map f).map V.bl)) → Q (.ref p) H') : kLc (gName k) tYes te [k] σ Q (Itl K a) H :=
  lcI (fun n => .bl (f n)) h hn hw he fun p H' np s hp => q p H' np s (by rw [hp, List.map_map]; rfl)
/-- over a range, each turn's value by f -/
theorem lcN {k : Nat} {lo : Int} {n : Nat} (f : Nat → V) (hn : n ≤ 100000) (hw : ∀ x : V, wipe ((wipe σ [k]).set k (some x)) [k] = wipe σ [k])
    (he : ∀ (i : Nat) H', i < n → Same H H' → ∀ Q' : VK, (∀ H'', Same H' H'' → Q' (f i) H'') → te ((wipe σ [k]).set k (some (.int (lo + i)))) H' Q')
    (q : ∀ p H', H p = none → Same H H' → H' p = some (.lst ((List.range n).map f)) → Q (.ref p) H') : kLc (gName k) tYes te [k] σ Q (Itr lo n) H := by
  refine lcW (σi := fun i => (wipe σ [k]).set k (some (.int (lo + i)))) (walk_range (lo := lo) (n := n)) (fun _ => true) f hn (fun _ _ => trivial) (fun i H' k' z => z) (fun i => hw _) (fun i H' _ _ Q' z => z H' (Same.refl H')) (fun i H' hi _ s => he i H' hi s) fun p H' np s hp => ?_
  refine q p H' np s ?_
  rw [hp, List.filter_eq_self.mpr (fun _ _ => rfl)]
/-- if c: x = e, x an int -/
theorem wp_kIfSetI {n : Nat} {old new : Int} (h : σ[n]? = some (some (.int old))) (he : c = true → ∀ Q' : VK, Q' (.int new) H → te σ H Q') (q : ∀ z : Int, z = (if c = true then new else old) → D.nx (σ.set n (some (.int z))) H) : kIfS (tAsg te (gName n)) tNext D σ c H := by
  cases c with
  | true => exact he rfl _ (q new (by rw [if_pos rfl]))
  | false =>
    have e : σ.set n (some (.int old)) = σ := by
      obtain ⟨hn, e⟩ := List.getElem?_eq_some_iff.mp h
      rw [← e, List.set_getElem_self]
    have z := q old (by rw [if_neg (by decide)])
    rw [e] at z
    exact z
/-- reversed(range(n)) -/
def kRev1 (R : It → Hp → Prop) : VK := fun x H1 => ∃ n : Int, x = .int n ∧ (-(2 ^ 62) ≤ (0 : Int) ∧ (0 : Int) < 2 ^ 62 ∧ -(2 ^ 62) ≤ n ∧ n < 2 ^ 62 ∧ R (Itc (0 + (((n - 0).toNat : Nat) : Int) - 1) (-1) (n - 0).toNat) H1)
theorem wp_iRevR1 {R : It → Hp → Prop} (q : ta σ H (kRev1 R)) : iRevR (tRg1 ta) σ H R := q
theorem wp_kRev1 {R : It → Hp → Prop} {n : Nat} (h : n ≤ 100000) (q : R (Itc ((n : Int) - 1) (-1) n) H) : kRev1 R (.int n) H := by
  have e : ((n : Int) - 0).toNat = n := by omega
  refine ⟨n, rfl, by omega, by omega, by omega, by omega, ?_⟩
  rw [e, Int.zero_add]
  exact q
theorem forRev {g : TG} {n : Nat} (Pv : Nat → L2.St → Hp → Prop) (h0 : Pv 0 σ H)
    (hs : ∀ (i : Nat) σ' H', i < n → Pv i σ' H' → g (.int ((n - 1 - i : Nat) : Int)) σ' H' fun σ2 H2 => t { D with nx := Pv (i + 1), ct := Pv (i + 1), bk := D.nx } σ2 H2) (hd : ∀ σ' H', Pv n σ' H' → D.nx σ' H') : kFor g t D σ (Itc ((n : Int) - 1) (-1) n) H :=
  for_rangeC Pv h0 (fun i σ' H' hi p => by
    have e : ((n : Int) - 1) + (i : Nat) * (-1) = ((n - 1 - i : Nat) : Int) := by omega
    rw [e]
    exact hs i σ' H' hi p) hd
theorem wp_tYes {Q : Bool → Hp → Prop} (q : Q true H) : tYes σ H Q := q
/-! ### all, any, isinstance -/
theorem wp_all {bs : List Bool} (h : H a = some (.lst (bs.map V.bl))) (q : Q (.bl (bs.all id)) H) : rAll K [.ref a] H Q := ⟨a, bs, rfl, SqL.of h, q⟩
theorem wp_any {bs : List Bool} (h : H a = some (.lst (bs.map V.bl))) (q : Q (.bl (bs.any id)) H) : rAny K [.ref a] H Q := ⟨a, bs, rfl, SqL.of h, q⟩
theorem isi_int (q : Q (.bl true) H) : rIsi K [.int i, .ty "int"] H Q := ⟨_, _, _, _, true, rfl, .ty _, .base (.int i), kit_ty (by decide +kernel), q⟩
theorem isi_int_bool (q : Q (.bl false) H) : rIsi K [.int i, .ty "bool"] H Q := ⟨_, _, _, _, false, rfl, .ty _, .base (.int i), kit_ty (by decide +kernel), q⟩
theorem isi_bool (q : Q (.bl true) H) : rIsi K [.bl c, .ty "bool"] H Q := ⟨_, _, _, _, true, rfl, .ty _, .base (.bl c), kit_ty (by decide +kernel), q⟩
theorem isi_list (h : H a = some (.lst xs)) (q : Q (.bl true) H) : rIsi K [.ref a, .ty "list"] H Q := ⟨_, _, _, _, true, rfl, .ty _, .base (.lst h), kit_ty (by decide +kernel), q⟩
theorem isi_tup (h : H a = some (.tup xs)) (q : Q (.bl true) H) : rIsi K [.ref a, .ty "tuple"] H Q := ⟨_, _, _, _, true, rfl, .ty _, .base (.tup h), kit_ty (by decide +kernel), q⟩
/-! ### dicts of ints -/
def kD2 (ty tx : TE) (σ : L2.St) (Q : VK) : VK := fun x H1 => ∃ a, x = .ref a ∧ IsD H1 a ∧ ty σ H1 fun y H2 => tx σ H2 fun z H3 => ∃ o, DGet H3 a y o ∧ Q (o.getD z) H3
theorem wp_dget2 {td ty tx : TE} (q : td σ H (kD2 ty tx σ Q)) : tDGet2 td ty tx σ H Q := q
theorem wp_kD2 {kvs : List (Key × V)} {ty tx : TE} {n m : Int} (h : H a = some (.dK kvs)) (hy : ∀ Q' : VK, Q' (.int n) H → ty σ H Q') (hx : ∀ Q' : VK, Q' (.int m) H → tx σ H Q') (q : Q ((valV kvs (.inl n)).getD (.int m)) H) : kD2 ty tx σ Q (.ref a) H :=
  ⟨a, rfl, .inl ⟨kvs, .inl h⟩, hy _ (hx _ ⟨_, DGet.k (k := Sum.inl n) h, q⟩)⟩
def kPut (ty : TE) (D : Ends) (σ : L2.St) (td : TE) : VK := fun v H1 => td σ H1 fun x H2 => ty σ H2 fun y H3 => ∃ a H4, x = .ref a ∧ DPut H3 a y v H4 ∧ D.nx σ H4
theorem wp_dput {td ty tv : TE} (q : tv σ H (kPut ty D σ td)) : sDPut td ty tv D σ H := q
def kPut2 (v : V) (D : Ends) (σ : L2.St) : V → V → Hp → Prop := fun x y H3 => ∃ a H4, x = .ref a ∧ DPut H3 a y v H4 ∧ D.nx σ H4
theorem wp_kPut {td ty : TE} (q : td σ H fun x H2 => ty σ H2 fun y H3 => kPut2 v D σ x y H3) : kPut ty D σ td v H := q
theorem wp_kPut2 {kvs : List (Key × V)} {n : Int} (h : H a = some (.dK kvs)) (hl : kvs.length < 100000) (q : D.nx σ (upd H a (.dK (putK kvs (.inl n) v)))) : kPut2 v D σ (.ref a) (.int n) H :=
  ⟨a, _, rfl, DPut.k (k := Sum.inl n) h (szl hl), q⟩
theorem wp_dnew (q : ∀ p, H p = none → Q (.ref p) (upd H p (.dK []))) : tDNewK σ H Q := q
def kIn (Q : VK) : V → V → Hp → Prop := fun y x H2 => ∃ a o, x = .ref a ∧ DGet H2 a y o ∧ Q (.bl o.isSome) H2
def kNin (Q : VK) : V → V → Hp → Prop := fun y x H2 => ∃ a o, x = .ref a ∧ DGet H2 a y o ∧ Q (.bl (!o.isSome)) H2
theorem wp_din {ty td : TE} (q : ty σ H fun y H1 => td σ H1 fun x H2 => kIn Q y x H2) : tDIn ty td σ H Q := q
theorem wp_dnin {ty td : TE} (q : ty σ H fun y H1 => td σ H1 fun x H2 => kNin Q y x H2) : tDNotIn ty td σ H Q := q
theorem wp_kIn {kvs : List (Key × V)} {n : Int} (h : Rd H a (.dK kvs)) (q : Q (.bl (valV kvs (.inl n)).isSome) H) : kIn Q (.int n) (.ref a) H := ⟨a, _, rfl, .inl ⟨kvs, .inl n, h, rfl, rfl⟩, q⟩
theorem wp_kNin {kvs : List (Key × V)} {n : Int} (h : Rd H a (.dK kvs)) (q : Q (.bl (!(valV kvs (.inl n)).isSome)) H) : kNin Q (.int n) (.ref a) H := ⟨a, _, rfl, .inl ⟨kvs, .inl n, h, rfl, rfl⟩, q⟩
def kGet (Q : VK) : V → V → Hp → Prop := fun x y H2 => ∃ a v, x = .ref a ∧ DGet H2 a y (some v) ∧ Q v H2
theorem wp_dget {td ty : TE} (q : td σ H fun x H1 => ty σ H1 fun y H2 => kGet Q x y H2) : tDGet td ty σ H Q := q
theorem wp_kGet {kvs : List (Key × V)} {n : Int} (h : Rd H a (.dK kvs)) (e : valV kvs (.inl n) = some v) (q : Q v H) : kGet Q (.ref a) (.int n) H := ⟨a, v, rfl, .inl ⟨kvs, .inl n, h, rfl, e.symm⟩, q⟩
theorem putK_len' (kvs : List (Key × V)) (k : Key) (x : V) : (putK kvs k x).length ≤ kvs.length + 1 := by
  unfold putK
  split
  · simp
  · simp
end

/-! ### sums from the beginning -/
def pre (ns : List Int) (i : Nat) : Int := (ns.take i).sum
/-- all of them -/
def psums (ns : List Int) : List Int := (List.range (ns.length + 1)).map (pre ns)
def psumsTo (ns : List Int) (i : Nat) : List Int := (List.range (i + 1)).map (pre ns)
theorem psumsTo_zero (ns : List Int) : psumsTo ns 0 = [0] := by simp [psumsTo, pre]
theorem psumsTo_all (ns : List Int) : psumsTo ns ns.length = psums ns := rfl
theorem psums_length (ns : List Int) : (psums ns).length = ns.length + 1 := by simp [psums]
theorem psumsTo_length (ns : List Int) (i : Nat) : (psumsTo ns i).length = i + 1 := by simp [psumsTo]
theorem pre_zero (ns : List Int) : pre ns 0 = 0 := by simp [pre]
theorem pre_succ {ns : List Int} {i : Nat} (h : i < ns.length) : pre ns (i + 1) = pre ns i + nth ns i := by
  have e : ns[i]? = some (nth ns i) := by simp [nth, h]
  exact sum_take e
theorem nth_psumsTo (ns : List Int) {i j : Nat} (h : j ≤ i) : nth (psumsTo ns i) j = pre ns j := by
  unfold nth psumsTo
  have : j < i + 1 := by omega
  simp [this]
theorem nth_psums (ns : List Int) {j : Nat} (h : j ≤ ns.length) : nth (psums ns) j = pre ns j := nth_psumsTo ns h
theorem psumsTo_succ {ns : List Int} {i : Nat} (h : i < ns.length) : psumsTo ns (i + 1) = psumsTo ns i ++ [pre ns i + nth ns i] := by
  unfold psumsTo
  rw [List.range_succ, List.map_append, ← pre_succ h]
  try rfl
theorem psums_nil : psums [] = [0] := by simp [psums, pre]
theorem psums_cons (n : Int) (r : List Int) : psums (n :: r) = 0 :: (psums r).map (n + ·) := by
  unfold psums
  rw [List.length_cons, List.range_succ_eq_map, List.map_cons, List.map_map, List.map_map, pre_zero]
  congr 1
theorem psums_neg (r : List Int) : psums (r.map (- ·)) = (psums r).map (- ·) := by
  induction r with
  | nil => simp [psums_nil]
  | cons n r ih =>
    rw [List.map_cons, psums_cons, psums_cons, ih, List.map_cons, List.map_map, List.map_map]
    congr 1
    apply List.map_congr_left
    intro x _
    simp
    omega
theorem psums_snoc (r : List Int) (n : Int) : psums (r ++ [n]) = psums r ++ [r.sum + n] := by
  unfold psums
  rw [List.length_append, List.length_singleton, List.range_succ, List.map_append]
  congr 1
  · apply List.map_congr_left
    intro i hi
    rw [List.mem_range] at hi
    unfold pre
    rw [List.take_append_of_le_length (by omega)]
  · have : (r ++ [n]).take (r.length + 1) = r ++ [n] := List.take_of_length_le (by simp)
    simp [pre, this]
theorem psums_rev (r : List Int) : psums r.reverse = (psums r).reverse.map (r.sum - ·) := by
  induction r with
  | nil => simp [psums_nil]
  | cons n r ih =>
    rw [List.reverse_cons, psums_snoc, ih, psums_cons, List.reverse_cons, List.map_append, List.sum_cons, ← List.map_reverse, List.map_map]
    congr 1
    · apply List.map_congr_left
      intro x _
      simp
      omega
    · have e : ∀ l : List Int, l.reverse.sum = l.sum := fun l => by
        induction l with
        | nil => rfl
        | cons x l ih => rw [List.reverse_cons, List.sum_append, ih]; simp; omega
      simp
      omega
/-! ### how many pairs part by t -/
def pairs (t : Int) : List Int → Int
  | [] => 0
  | x :: r => (r.count (x + t) : Int) + pairs t r
theorem pairs_snoc (t : Int) (l : List Int) (y : Int) : pairs t (l ++ [y]) = pairs t l + (l.count (y - t) : Int) := by
  induction l with
  | nil => simp [pairs]
  | cons x r ih =>
    rw [List.cons_append, pairs, pairs, ih, List.count_append]
    simp only [List.count_cons, List.count_nil, beq_iff_eq]
    by_cases e : x + t = y
    · rw [if_pos e.symm, if_pos (show x = y - t by omega)]
      omega
    · rw [if_neg (fun z => e z.symm), if_neg (show ¬ x = y - t by omega)]
      omega
theorem count_map_of {f : Int → Int} (hf : ∀ x y, f x = f y → x = y) (l : List Int) (x : Int) : (l.map f).count (f x) = l.count x := by
  induction l with
  | nil => rfl
  | cons y r ih =>
    rw [List.map_cons, List.count_cons, List.count_cons, ih]
    by_cases e : y = x
    · simp [e]
    · have e2 : ¬ f y = f x := fun z => e (hf _ _ z)
      simp [e, e2]
theorem pairs_neg (t : Int) (l : List Int) : pairs (-t) (l.map (- ·)) = pairs t l := by
  induction l with
  | nil => rfl
  | cons x r ih =>
    rw [List.map_cons, pairs, pairs, ih]
    have e : -x + -t = -(x + t) := by omega
    rw [e, count_map_of (f := (- ·)) (fun a b h => by simp at h; exact h)]
theorem count_rev (l : List Int) (x : Int) : l.reverse.count x = l.count x := by
  induction l with
  | nil => rfl
  | cons y r ih =>
    rw [List.reverse_cons, List.count_append, ih]
    simp only [List.count_cons, List.count_nil]
    omega
theorem pairs_rev (t S : Int) (l : List Int) : pairs t (l.reverse.map (S - ·)) = pairs t l := by
  induction l with
  | nil => rfl
  | cons x r ih =>
    rw [List.reverse_cons, List.map_append, List.map_cons, List.map_nil, pairs_snoc, ih, pairs]
    have e : S - x - t = S - (x + t) := by omega
    rw [e, count_map_of (f := (S - ·)) (fun a b h => by simp at h; omega), count_rev]
    omega
/-- how many stretches have the sum t -/
def cntOf (ns : List Int) (t : Int) : Int := pairs t (psums ns)
theorem cntOf_neg (ns : List Int) (t : Int) : cntOf (ns.map (- ·)) (-t) = cntOf ns t := by
  unfold cntOf
  rw [psums_neg, pairs_neg]
theorem cntOf_rev (ns : List Int) (t : Int) : cntOf ns.reverse t = cntOf ns t := by
  unfold cntOf
  rw [psums_rev, pairs_rev]
/-! ### a dict that counts -/
def CntD (kvs : List (Key × V)) (l : List Int) : Prop := (∀ v : Int, (valV kvs (.inl v)).getD (.int 0) = .int (l.count v)) ∧ kvs.length ≤ l.length
theorem cntD_nil : CntD [] [] := ⟨fun v => by simp [valV_nil], by simp⟩
theorem cntD_put {kvs : List (Key × V)} {l l' : List Int} {y : Int} (h : CntD kvs l) (hl : ∀ v, l'.count v = l.count v + if v = y then 1 else 0) (hn : l'.length = l.length + 1) :
    CntD (putK kvs (.inl y) (.int ((l.count y : Int) + 1))) l' := by
  refine ⟨fun v => ?_, ?_⟩
  · rw [valV_put, hl v]
    by_cases e : v = y
    · subst e
      simp
    · have : ¬ (Sum.inl v : Key) = Sum.inl y := fun z => e (Sum.inl.inj z)
      rw [if_neg this, if_neg e, h.1 v]
      simp
  · have := putK_len' kvs (.inl y) (.int ((l.count y : Int) + 1))
    have := h.2
    omega
/-! ### the law's row -/
def lmost (ns : List Int) : Int := nth [3, 10, 10, 1000000] (ns.sum % 4)
def lrow (ns : List Int) : List Int := ns.map fun c => c % (2 * lmost ns + 1) - lmost ns
theorem lmost_cases (ns : List Int) : lmost ns = 3 ∨ lmost ns = 10 ∨ lmost ns = 1000000 := by
  unfold lmost
  have h1 : 0 ≤ ns.sum % 4 := Int.emod_nonneg _ (by decide)
  have h2 : ns.sum % 4 < 4 := Int.emod_lt_of_pos _ (by decide)
  have : ns.sum % 4 = 0 ∨ ns.sum % 4 = 1 ∨ ns.sum % 4 = 2 ∨ ns.sum % 4 = 3 := by omega
  rcases this with e | e | e | e <;> rw [e]
  · exact .inl rfl
  · exact .inr (.inl rfl)
  · exact .inr (.inl rfl)
  · exact .inr (.inr rfl)
/-- a row that is no refusal -/
def IsRow (ns : List Int) : Prop := ∀ n ∈ ns, -1000000 ≤ n ∧ n ≤ 1000000
theorem lrow_length (ns : List Int) : (lrow ns).length = ns.length := by simp [lrow]
theorem lrow_row (ns : List Int) : IsRow (lrow ns) := by
  intro n hn
  unfold lrow at hn
  obtain ⟨c, _, rfl⟩ := List.mem_map.mp hn
  rcases lmost_cases ns with e | e | e <;> rw [e] <;> omega
theorem IsRow.rev {ns : List Int} (h : IsRow ns) : IsRow ns.reverse := fun n hn => h n (by simpa using hn)
theorem IsRow.neg {ns : List Int} (h : IsRow ns) : IsRow (ns.map (- ·)) := fun n hn => by
  obtain ⟨m, hm, rfl⟩ := List.mem_map.mp hn
  have := h m hm
  omega
theorem nth_mem {ns : List Int} {i : Nat} (h : i < ns.length) : nth ns i ∈ ns := by
  have : nth ns i = ns[i] := by simp [nth, h]
  rw [this]
  exact List.getElem_mem h
end Bs

namespace Bs
open PySem L2
theorem ne_bounds_ins : ¬ (("bounds" : Str) = "ins") := by decide +kernel
theorem bq_bounds_ins : (("bounds" : Str) == "ins") = false := by decide +kernel
theorem ne_bounds_outs : ¬ (("bounds" : Str) = "outs") := by decide +kernel
theorem bq_bounds_outs : (("bounds" : Str) == "outs") = false := by decide +kernel
theorem ne_bounds_price : ¬ (("bounds" : Str) = "price") := by decide +kernel
theorem bq_bounds_price : (("bounds" : Str) == "price") = false := by decide +kernel
theorem ne_bounds_stretches : ¬ (("bounds" : Str) = "stretches") := by decide +kernel
theorem bq_bounds_stretches : (("bounds" : Str) == "stretches") = false := by decide +kernel
theorem ne_first_lows : ¬ (("first" : Str) = "lows") := by decide +kernel
theorem bq_first_lows : (("first" : Str) == "lows") = false := by decide +kernel
theorem ne_first_many : ¬ (("first" : Str) = "many") := by decide +kernel
theorem bq_first_many : (("first" : Str) == "many") = false := by decide +kernel
theorem ne_first_tops : ¬ (("first" : Str) = "tops") := by decide +kernel
theorem bq_first_tops : (("first" : Str) == "tops") = false := by decide +kernel
theorem ne_ins_outs : ¬ (("ins" : Str) = "outs") := by decide +kernel
theorem bq_ins_outs : (("ins" : Str) == "outs") = false := by decide +kernel
theorem ne_ins_price : ¬ (("ins" : Str) = "price") := by decide +kernel
theorem bq_ins_price : (("ins" : Str) == "price") = false := by decide +kernel
theorem ne_ins_stretches : ¬ (("ins" : Str) = "stretches") := by decide +kernel
theorem bq_ins_stretches : (("ins" : Str) == "stretches") = false := by decide +kernel
theorem ne_lows_first : ¬ (("lows" : Str) = "first") := by decide +kernel
theorem bq_lows_first : (("lows" : Str) == "first") = false := by decide +kernel
theorem ne_lows_many : ¬ (("lows" : Str) = "many") := by decide +kernel
theorem bq_lows_many : (("lows" : Str) == "many") = false := by decide +kernel
theorem ne_lows_tops : ¬ (("lows" : Str) = "tops") := by decide +kernel
theorem bq_lows_tops : (("lows" : Str) == "tops") = false := by decide +kernel
theorem ne_many_first : ¬ (("many" : Str) = "first") := by decide +kernel
theorem bq_many_first : (("many" : Str) == "first") = false := by decide +kernel
theorem ne_many_lows : ¬ (("many" : Str) = "lows") := by decide +kernel
theorem bq_many_lows : (("many" : Str) == "lows") = false := by decide +kernel
theorem ne_many_tops : ¬ (("many" : Str) = "tops") := by decide +kernel
theorem bq_many_tops : (("many" : Str) == "tops") = false := by decide +kernel
theorem ne_outs_ins : ¬ (("outs" : Str) = "ins") := by decide +kernel
theorem bq_outs_ins : (("outs" : Str) == "ins") = false := by decide +kernel
theorem ne_outs_price : ¬ (("outs" : Str) = "price") := by decide +kernel
theorem bq_outs_price : (("outs" : Str) == "price") = false := by decide +kernel
theorem ne_outs_stretches : ¬ (("outs" : Str) = "stretches") := by decide +kernel
theorem bq_outs_stretches : (("outs" : Str) == "stretches") = false := by decide +kernel
theorem ne_price_ins : ¬ (("price" : Str) = "ins") := by decide +kernel
theorem bq_price_ins : (("price" : Str) == "ins") = false := by decide +kernel
theorem ne_price_outs : ¬ (("price" : Str) = "outs") := by decide +kernel
theorem bq_price_outs : (("price" : Str) == "outs") = false := by decide +kernel
theorem ne_price_stretches : ¬ (("price" : Str) = "stretches") := by decide +kernel
theorem bq_price_stretches : (("price" : Str) == "stretches") = false := by decide +kernel
theorem ne_shows_first : ¬ (("shows" : Str) = "first") := by decide +kernel
theorem bq_shows_first : (("shows" : Str) == "first") = false := by decide +kernel
theorem ne_shows_ins : ¬ (("shows" : Str) = "ins") := by decide +kernel
theorem bq_shows_ins : (("shows" : Str) == "ins") = false := by decide +kernel
theorem ne_shows_lows : ¬ (("shows" : Str) = "lows") := by decide +kernel
theorem bq_shows_lows : (("shows" : Str) == "lows") = false := by decide +kernel
theorem ne_shows_many : ¬ (("shows" : Str) = "many") := by decide +kernel
theorem bq_shows_many : (("shows" : Str) == "many") = false := by decide +kernel
theorem ne_shows_outs : ¬ (("shows" : Str) = "outs") := by decide +kernel
theorem bq_shows_outs : (("shows" : Str) == "outs") = false := by decide +kernel
theorem ne_shows_price : ¬ (("shows" : Str) = "price") := by decide +kernel
theorem bq_shows_price : (("shows" : Str) == "price") = false := by decide +kernel
theorem ne_shows_stretches : ¬ (("shows" : Str) = "stretches") := by decide +kernel
theorem bq_shows_stretches : (("shows" : Str) == "stretches") = false := by decide +kernel
theorem ne_shows_table : ¬ (("shows" : Str) = "table") := by decide +kernel
theorem bq_shows_table : (("shows" : Str) == "table") = false := by decide +kernel
theorem ne_shows_tops : ¬ (("shows" : Str) = "tops") := by decide +kernel
theorem bq_shows_tops : (("shows" : Str) == "tops") = false := by decide +kernel
theorem ne_stretches_ins : ¬ (("stretches" : Str) = "ins") := by decide +kernel
theorem bq_stretches_ins : (("stretches" : Str) == "ins") = false := by decide +kernel
theorem ne_stretches_outs : ¬ (("stretches" : Str) = "outs") := by decide +kernel
theorem bq_stretches_outs : (("stretches" : Str) == "outs") = false := by decide +kernel
theorem ne_stretches_price : ¬ (("stretches" : Str) = "price") := by decide +kernel
theorem bq_stretches_price : (("stretches" : Str) == "price") = false := by decide +kernel
theorem ne_tops_first : ¬ (("tops" : Str) = "first") := by decide +kernel
theorem bq_tops_first : (("tops" : Str) == "first") = false := by decide +kernel
theorem ne_tops_lows : ¬ (("tops" : Str) = "lows") := by decide +kernel
theorem bq_tops_lows : (("tops" : Str) == "lows") = false := by decide +kernel
theorem ne_tops_many : ¬ (("tops" : Str) = "many") := by decide +kernel
theorem bq_tops_many : (("tops" : Str) == "many") = false := by decide +kernel
def fBest (x0 : Int) (x1 : Int) (x2 : Addr) : List (Str × V) := [("first", V.int x0), ("many", V.int x1), ("lows", V.ref x2)]
theorem fBest_len {x0 : Int} {x1 : Int} {x2 : Addr} : (fBest x0 x1 x2).length < 1000 := by show 3 < 1000; decide
theorem lk_Best_first {x0 : Int} {x1 : Int} {x2 : Addr} : (fBest x0 x1 x2).lookup ("first" : Str) = some (.int x0) := by simp only [fBest, List.lookup_cons, beq_self_eq_true]
theorem pt_Best_first {x0 : Int} : putF "first" (.int x0) ([] : List (Str × V)) = ([("first", V.int x0)] : List (Str × V)) := by simp only [putF]
theorem lk_Best_many {x0 : Int} {x1 : Int} {x2 : Addr} : (fBest x0 x1 x2).lookup ("many" : Str) = some (.int x1) := by simp only [fBest, List.lookup_cons, bq_many_first, beq_self_eq_true]
theorem pt_Best_many {x0 : Int} {x1 : Int} : putF "many" (.int x1) ([("first", V.int x0)] : List (Str × V)) = ([("first", V.int x0), ("many", V.int x1)] : List (Str × V)) := by simp only [putF, if_neg ne_first_many]
theorem lk_Best_lows {x0 : Int} {x1 : Int} {x2 : Addr} : (fBest x0 x1 x2).lookup ("lows" : Str) = some (.ref x2) := by simp only [fBest, List.lookup_cons, bq_lows_first, bq_lows_many, beq_self_eq_true]
theorem pt_Best_lows {x0 : Int} {x1 : Int} {x2 : Addr} : putF "lows" (.ref x2) ([("first", V.int x0), ("many", V.int x1)] : List (Str × V)) = ([("first", V.int x0), ("many", V.int x1), ("lows", V.ref x2)] : List (Str × V)) := by simp only [putF, if_neg ne_first_lows, if_neg ne_many_lows]
theorem no_Best_shows {x0 : Int} {x1 : Int} {x2 : Addr} : (fBest x0 x1 x2).lookup ("shows" : Str) = none := by simp only [fBest, List.lookup_cons, List.lookup_nil, bq_shows_first, bq_shows_many, bq_shows_lows]
structure OkBest (K : PySem.W.Frag) (C : Addr) : Prop where
  cl : Cls K C
  first : NoAttr K C "first"
  many : NoAttr K C "many"
  lows : NoAttr K C "lows"
def fSteep (x0 : Int) (x1 : Int) (x2 : Addr) : List (Str × V) := [("first", V.int x0), ("many", V.int x1), ("lows", V.ref x2)]
theorem fSteep_len {x0 : Int} {x1 : Int} {x2 : Addr} : (fSteep x0 x1 x2).length < 1000 := by show 3 < 1000; decide
theorem lk_Steep_first {x0 : Int} {x1 : Int} {x2 : Addr} : (fSteep x0 x1 x2).lookup ("first" : Str) = some (.int x0) := by simp only [fSteep, List.lookup_cons, beq_self_eq_true]
theorem pt_Steep_first {x0 : Int} : putF "first" (.int x0) ([] : List (Str × V)) = ([("first", V.int x0)] : List (Str × V)) := by simp only [putF]
theorem lk_Steep_many {x0 : Int} {x1 : Int} {x2 : Addr} : (fSteep x0 x1 x2).lookup ("many" : Str) = some (.int x1) := by simp only [fSteep, List.lookup_cons, bq_many_first, beq_self_eq_true]
theorem pt_Steep_many {x0 : Int} {x1 : Int} : putF "many" (.int x1) ([("first", V.int x0)] : List (Str × V)) = ([("first", V.int x0), ("many", V.int x1)] : List (Str × V)) := by simp only [putF, if_neg ne_first_many]
theorem lk_Steep_lows {x0 : Int} {x1 : Int} {x2 : Addr} : (fSteep x0 x1 x2).lookup ("lows" : Str) = some (.ref x2) := by simp only [fSteep, List.lookup_cons, bq_lows_first, bq_lows_many, beq_self_eq_true]
theorem pt_Steep_lows {x0 : Int} {x1 : Int} {x2 : Addr} : putF "lows" (.ref x2) ([("first", V.int x0), ("many", V.int x1)] : List (Str × V)) = ([("first", V.int x0), ("many", V.int x1), ("lows", V.ref x2)] : List (Str × V)) := by simp only [putF, if_neg ne_first_lows, if_neg ne_many_lows]
theorem no_Steep_shows {x0 : Int} {x1 : Int} {x2 : Addr} : (fSteep x0 x1 x2).lookup ("shows" : Str) = none := by simp only [fSteep, List.lookup_cons, List.lookup_nil, bq_shows_first, bq_shows_many, bq_shows_lows]
structure OkSteep (K : PySem.W.Frag) (C : Addr) : Prop where
  cl : Cls K C
  first : NoAttr K C "first"
  many : NoAttr K C "many"
  lows : NoAttr K C "lows"
def fAround (x0 : Int) (x1 : Int) (x2 : Addr) (x3 : Addr) : List (Str × V) := [("first", V.int x0), ("many", V.int x1), ("lows", V.ref x2), ("tops", V.ref x3)]
theorem fAround_len {x0 : Int} {x1 : Int} {x2 : Addr} {x3 : Addr} : (fAround x0 x1 x2 x3).length < 1000 := by show 4 < 1000; decide
theorem lk_Around_first {x0 : Int} {x1 : Int} {x2 : Addr} {x3 : Addr} : (fAround x0 x1 x2 x3).lookup ("first" : Str) = some (.int x0) := by simp only [fAround, List.lookup_cons, beq_self_eq_true]
theorem pt_Around_first {x0 : Int} : putF "first" (.int x0) ([] : List (Str × V)) = ([("first", V.int x0)] : List (Str × V)) := by simp only [putF]
theorem lk_Around_many {x0 : Int} {x1 : Int} {x2 : Addr} {x3 : Addr} : (fAround x0 x1 x2 x3).lookup ("many" : Str) = some (.int x1) := by simp only [fAround, List.lookup_cons, bq_many_first, beq_self_eq_true]
theorem pt_Around_many {x0 : Int} {x1 : Int} : putF "many" (.int x1) ([("first", V.int x0)] : List (Str × V)) = ([("first", V.int x0), ("many", V.int x1)] : List (Str × V)) := by simp only [putF, if_neg ne_first_many]
theorem lk_Around_lows {x0 : Int} {x1 : Int} {x2 : Addr} {x3 : Addr} : (fAround x0 x1 x2 x3).lookup ("lows" : Str) = some (.ref x2) := by simp only [fAround, List.lookup_cons, bq_lows_first, bq_lows_many, beq_self_eq_true]
theorem pt_Around_lows {x0 : Int} {x1 : Int} {x2 : Addr} : putF "lows" (.ref x2) ([("first", V.int x0), ("many", V.int x1)] : List (Str × V)) = ([("first", V.int x0), ("many", V.int x1), ("lows", V.ref x2)] : List (Str × V)) := by simp only [putF, if_neg ne_first_lows, if_neg ne_many_lows]
theorem lk_Around_tops {x0 : Int} {x1 : Int} {x2 : Addr} {x3 : Addr} : (fAround x0 x1 x2 x3).lookup ("tops" : Str) = some (.ref x3) := by simp only [fAround, List.lookup_cons, bq_tops_first, bq_tops_many, bq_tops_lows, beq_self_eq_true]
theorem pt_Around_tops {x0 : Int} {x1 : Int} {x2 : Addr} {x3 : Addr} : putF "tops" (.ref x3) ([("first", V.int x0), ("many", V.int x1), ("lows", V.ref x2)] : List (Str × V)) = ([("first", V.int x0), ("many", V.int x1), ("lows", V.ref x2), ("tops", V.ref x3)] : List (Str × V)) := by simp only [putF, if_neg ne_first_tops, if_neg ne_many_tops, if_neg ne_lows_tops]
theorem no_Around_shows {x0 : Int} {x1 : Int} {x2 : Addr} {x3 : Addr} : (fAround x0 x1 x2 x3).lookup ("shows" : Str) = none := by simp only [fAround, List.lookup_cons, List.lookup_nil, bq_shows_first, bq_shows_many, bq_shows_lows, bq_shows_tops]
structure OkAround (K : PySem.W.Frag) (C : Addr) : Prop where
  cl : Cls K C
  first : NoAttr K C "first"
  many : NoAttr K C "many"
  lows : NoAttr K C "lows"
  tops : NoAttr K C "tops"
def fExact (x0 : Int) (x1 : Int) : List (Str × V) := [("first", V.int x0), ("many", V.int x1)]
theorem fExact_len {x0 : Int} {x1 : Int} : (fExact x0 x1).length < 1000 := by show 2 < 1000; decide
theorem lk_Exact_first {x0 : Int} {x1 : Int} : (fExact x0 x1).lookup ("first" : Str) = some (.int x0) := by simp only [fExact, List.lookup_cons, beq_self_eq_true]
theorem pt_Exact_first {x0 : Int} : putF "first" (.int x0) ([] : List (Str × V)) = ([("first", V.int x0)] : List (Str × V)) := by simp only [putF]
theorem lk_Exact_many {x0 : Int} {x1 : Int} : (fExact x0 x1).lookup ("many" : Str) = some (.int x1) := by simp only [fExact, List.lookup_cons, bq_many_first, beq_self_eq_true]
theorem pt_Exact_many {x0 : Int} {x1 : Int} : putF "many" (.int x1) ([("first", V.int x0)] : List (Str × V)) = ([("first", V.int x0), ("many", V.int x1)] : List (Str × V)) := by simp only [putF, if_neg ne_first_many]
theorem no_Exact_shows {x0 : Int} {x1 : Int} : (fExact x0 x1).lookup ("shows" : Str) = none := by simp only [fExact, List.lookup_cons, List.lookup_nil, bq_shows_first, bq_shows_many]
structure OkExact (K : PySem.W.Frag) (C : Addr) : Prop where
  cl : Cls K C
  first : NoAttr K C "first"
  many : NoAttr K C "many"
def fNever (x0 : Addr) : List (Str × V) := [("table", V.ref x0)]
theorem fNever_len {x0 : Addr} : (fNever x0).length < 1000 := by show 1 < 1000; decide
theorem lk_Never_table {x0 : Addr} : (fNever x0).lookup ("table" : Str) = some (.ref x0) := by simp only [fNever, List.lookup_cons, beq_self_eq_true]
theorem pt_Never_table {x0 : Addr} : putF "table" (.ref x0) ([] : List (Str × V)) = ([("table", V.ref x0)] : List (Str × V)) := by simp only [putF]
theorem no_Never_shows {x0 : Addr} : (fNever x0).lookup ("shows" : Str) = none := by simp only [fNever, List.lookup_cons, List.lookup_nil, bq_shows_table]
structure OkNever (K : PySem.W.Frag) (C : Addr) : Prop where
  cl : Cls K C
  table : NoAttr K C "table"
def fSeveral (x0 : Addr) (x1 : Int) (x2 : Addr) (x3 : Addr) : List (Str × V) := [("stretches", V.ref x0), ("price", V.int x1), ("outs", V.ref x2), ("ins", V.ref x3)]
theorem fSeveral_len {x0 : Addr} {x1 : Int} {x2 : Addr} {x3 : Addr} : (fSeveral x0 x1 x2 x3).length < 1000 := by show 4 < 1000; decide
theorem lk_Several_stretches {x0 : Addr} {x1 : Int} {x2 : Addr} {x3 : Addr} : (fSeveral x0 x1 x2 x3).lookup ("stretches" : Str) = some (.ref x0) := by simp only [fSeveral, List.lookup_cons, beq_self_eq_true]
theorem pt_Several_stretches {x0 : Addr} : putF "stretches" (.ref x0) ([] : List (Str × V)) = ([("stretches", V.ref x0)] : List (Str × V)) := by simp only [putF]
theorem lk_Several_price {x0 : Addr} {x1 : Int} {x2 : Addr} {x3 : Addr} : (fSeveral x0 x1 x2 x3).lookup ("price" : Str) = some (.int x1) := by simp only [fSeveral, List.lookup_cons, bq_price_stretches, beq_self_eq_true]
theorem pt_Several_price {x0 : Addr} {x1 : Int} : putF "price" (.int x1) ([("stretches", V.ref x0)] : List (Str × V)) = ([("stretches", V.ref x0), ("price", V.int x1)] : List (Str × V)) := by simp only [putF, if_neg ne_stretches_price]
theorem lk_Several_outs {x0 : Addr} {x1 : Int} {x2 : Addr} {x3 : Addr} : (fSeveral x0 x1 x2 x3).lookup ("outs" : Str) = some (.ref x2) := by simp only [fSeveral, List.lookup_cons, bq_outs_stretches, bq_outs_price, beq_self_eq_true]
theorem pt_Several_outs {x0 : Addr} {x1 : Int} {x2 : Addr} : putF "outs" (.ref x2) ([("stretches", V.ref x0), ("price", V.int x1)] : List (Str × V)) = ([("stretches", V.ref x0), ("price", V.int x1), ("outs", V.ref x2)] : List (Str × V)) := by simp only [putF, if_neg ne_stretches_outs, if_neg ne_price_outs]
theorem lk_Several_ins {x0 : Addr} {x1 : Int} {x2 : Addr} {x3 : Addr} : (fSeveral x0 x1 x2 x3).lookup ("ins" : Str) = some (.ref x3) := by simp only [fSeveral, List.lookup_cons, bq_ins_stretches, bq_ins_price, bq_ins_outs, beq_self_eq_true]
theorem pt_Several_ins {x0 : Addr} {x1 : Int} {x2 : Addr} {x3 : Addr} : putF "ins" (.ref x3) ([("stretches", V.ref x0), ("price", V.int x1), ("outs", V.ref x2)] : List (Str × V)) = ([("stretches", V.ref x0), ("price", V.int x1), ("outs", V.ref x2), ("ins", V.ref x3)] : List (Str × V)) := by simp only [putF, if_neg ne_stretches_ins, if_neg ne_price_ins, if_neg ne_outs_ins]
theorem no_Several_shows {x0 : Addr} {x1 : Int} {x2 : Addr} {x3 : Addr} : (fSeveral x0 x1 x2 x3).lookup ("shows" : Str) = none := by simp only [fSeveral, List.lookup_cons, List.lookup_nil, bq_shows_stretches, bq_shows_price, bq_shows_outs, bq_shows_ins]
theorem no_Several_bounds {x0 : Addr} {x1 : Int} {x2 : Addr} {x3 : Addr} : (fSeveral x0 x1 x2 x3).lookup ("bounds" : Str) = none := by simp only [fSeveral, List.lookup_cons, List.lookup_nil, bq_bounds_stretches, bq_bounds_price, bq_bounds_outs, bq_bounds_ins]
structure OkSeveral (K : PySem.W.Frag) (C : Addr) : Prop where
  cl : Cls K C
  stretches : NoAttr K C "stretches"
  price : NoAttr K C "price"
  outs : NoAttr K C "outs"
  ins : NoAttr K C "ins"
theorem kitOne_of {K : PySem.W.Frag} {C D : Addr} {b : Bool} (h1 : PySem.W.isClsIn K D = true) (h2 : PySem.W.typeIn K (.ref D) = some (.type "type")) (h3 : PySem.W.subIn K (.ref C) (.ref D) = some b) (h4 : PySem.W.subIn K (.ref C) (.ref C) = some true) :
    PySem.W.kitOne K (.ref C) (.ref D) = some b := by
  have e2 : ((PySem.W.clsIn K D).isSome && PySem.W.typeIn K (.ref D) == some (.type "type")) = true := by
    have h1' : (PySem.W.clsIn K D).isSome = true := h1
    rw [h1', h2] <;> rfl
  unfold PySem.W.kitOne
  by_cases e : (Value.ref C == Value.ref D) = true
  · rw [if_pos e]
    have : C = D := by
      have := eq_of_beq e
      injection this
    subst this
    rw [h4] at h3
    exact h3
  · rw [if_neg e]
    show (if ((PySem.W.clsIn K D).isSome && PySem.W.typeIn K (.ref D) == some (.type "type")) = true then PySem.W.subIn K (.ref C) (.ref D) else none) = some b
    rw [if_pos e2]
    exact h3
/-- what isinstance asks of an own class -/
structure IsiC (K : PySem.W.Frag) (C : Addr) : Prop where
  cl : Cls K C
  ha : PySem.W.findIn K (.ref C) "__class__" = some (some (.builtin "object.__class__"))
  hn : PySem.W.specialIn K (.builtin "object.__class__") "__get__" = some (some (.builtin "getset_descriptor.__get__"))
  tk : PySem.W.takesIn K (.builtin "object.__class__") = some true
  hm : PySem.W.mroIn K C (.type "object") = some true
section
variable {K : PySem.W.Frag} {σ σ' : L2.St} {H H' : Hp} {Q : VK} {ta tv : TE} {D : Ends} {v x y : V} {a C C' dx : Addr} {fs fs' : List (Str × V)} {f m : Str} {b : Bool} {vs : List V}
theorem isi_own (I : IsiC K C) (h : H a = some (.ins C dx fs)) (k : PySem.W.kitOne K (.ref C) (.ref C') = some b) (q : Q (.bl b) H) : rIsi K [.ref a, .ref C'] H Q :=
  ⟨_, _, _, _, b, rfl, .own C', .base (.ins h I.cl I.ha I.hn I.tk I.hm), k, q⟩
theorem isi_own' (h : H a = some (.ins C dx fs)) (I : IsiC K C) (k : PySem.W.kitOne K (.ref C) (.ref C') = some b) (q : Q (.bl b) H) : rIsi K [.ref a, .ref C'] H Q := isi_own I h k q
theorem wp_fld (q : ta σ H (kFld K f Q)) : tFld K ta f σ H Q := q
theorem wp_kFld (h : H a = some (.ins C dx fs)) (c : Cls K C) (n : NoAttr K C f) (l : fs.lookup f = some v) (q : Q v H) : kFld K f Q (.ref a) H := ⟨a, C, dx, fs, v, rfl, h, c, n, l, q⟩
def kPutF (K : PySem.W.Frag) (f : Str) (y : V) (D : Ends) (σ : L2.St) : VK := fun x H2 => ∃ a C dx fs, x = .ref a ∧ H2 a = some (.ins C dx fs) ∧ Cls K C ∧ NoAttr K C f ∧ fs.length < 1000 ∧ D.nx σ (upd H2 a (.ins C dx (putF f y fs)))
theorem wp_sfld (q : tv σ H fun y H1 => ta σ H1 fun x H2 => kPutF K f y D σ x H2) : sFld K ta tv f D σ H := q
theorem wp_kPutF (h : H a = some (.ins C dx fs)) (c : Cls K C) (n : NoAttr K C f) (l : fs.length < 1000) (e : putF f y fs = fs') (q : D.nx σ (upd H a (.ins C dx fs'))) : kPutF K f y D σ (.ref a) H :=
  ⟨a, C, dx, fs, rfl, h, c, n, l, by rw [e]; exact q⟩
def kCallM (x : V) (sp : Sp) (dvs : List V) (E : XK) (Q : VK) : List V → Hp → Prop := fun vs H => sp (x :: (vs ++ dvs)) H Q E
theorem wp_meth {sp : Sp} {dvs : List V} {E : XK} {t : TA} (q : ta σ H (kMeth C m sp dvs E t σ Q)) : tMeth C m sp dvs E ta t σ H Q := q
theorem wp_kMeth {sp : Sp} {dvs : List V} {E : XK} {t : TA} (h : H a = some (.ins C dx fs)) (n : fs.lookup m = none) (q : t σ H (kCallM (.ref a) sp dvs E Q)) : kMeth C m sp dvs E t σ Q (.ref a) H := ⟨a, dx, fs, rfl, h, n, q⟩
theorem wp_kCallM {sp : Sp} {E : XK} (q : sp (x :: vs) H Q E) : kCallM x sp [] E Q vs H := by
  show sp (x :: (vs ++ [])) H Q E
  rw [List.append_nil]
  exact q
theorem wp_make {sp : Sp} {dvs : List V} {E : XK} {t : TA} (q : t σ H (kMake C sp dvs E Q)) : tMake C sp dvs E t σ H Q := q
theorem wp_kMake {sp : Sp} {E : XK} (q : ∀ x dx, H x = none → H dx = none → dx ≠ x → sp (.ref x :: vs) (upd (upd H dx (.own x)) x (.ins C dx [])) (fun v H2 => v = .non ∧ Q (.ref x) H2) E) : kMake C sp [] E Q vs H := by
  intro x dx h1 h2 h3
  rw [List.append_nil]
  exact q x dx h1 h2 h3
/-- behind a making -/
theorem same_make {H0 : Hp} {p : Addr} (np : H p = none) (nd : H dx = none) (k : ∀ b o, (upd (upd H dx (.own p)) p (.ins C dx [])) b = some o → b ≠ p → H0 b = some o) : Same H H0 := fun b o e =>
  k b o (by rw [upd_ne (ne_of_none e np), upd_ne (ne_of_none e nd)]; exact e) (ne_of_none e np)
end
end Bs

namespace Bs
open PySem L2
/-! ### stretches and lows: the mathematics -/
def IsThere (f m l : Int) : Prop := 0 ≤ f ∧ 1 ≤ m ∧ f + m ≤ l
instance (f m l : Int) : Decidable (IsThere f m l) := by unfold IsThere; infer_instance
/-- lows against sums -/
def Below (sums : List Int) (least : Int) (lows : List Int) (told : Int) : Prop :=
  (lows.length : Int) = sums.length - least ∧ ∀ i : Nat, i < lows.length → nth lows i ≤ nth sums i ∧ (0 < i → nth lows i ≤ nth lows ((i : Int) - 1)) ∧ nth sums ((i : Int) + least) - nth lows i ≤ told
instance (sums : List Int) (least : Int) (lows : List Int) (told : Int) : Decidable (Below sums least lows told) := by unfold Below; infer_instance
/-- the sum of a stretch, as the slice has it -/
def segS (ns : List Int) (f m : Int) : Int := (cut ns (some f) (some (f + m))).sum
theorem cut_some (ns : List Int) {f e : Int} (h0 : 0 ≤ f) (h1 : f ≤ e) (h2 : e ≤ ns.length) : cut ns (some f) (some e) = (ns.drop f.toNat).take (e - f).toNat := by
  unfold cut
  have e1 : HT.sIx ns.length 0 (some f) = f.toNat := by
    show (if f < 0 then (f + (ns.length : Int)).toNat else min f.toNat ns.length) = f.toNat
    rw [if_neg (by omega)]
    omega
  have e2 : HT.sIx ns.length ns.length (some e) = e.toNat := by
    show (if e < 0 then (e + (ns.length : Int)).toNat else min e.toNat ns.length) = e.toNat
    rw [if_neg (by omega)]
    omega
  rw [e1, e2, show e.toNat - f.toNat = (e - f).toNat by omega]
theorem pre_split (ns : List Int) (f m : Nat) : pre ns (f + m) = pre ns f + ((ns.drop f).take m).sum := by
  unfold pre
  rw [List.take_add, List.sum_append]
theorem segS_pre (ns : List Int) {f m : Int} (h0 : 0 ≤ f) (h1 : 0 ≤ m) (h2 : f + m ≤ ns.length) : segS ns f m = nth (psums ns) (f + m) - nth (psums ns) f := by
  unfold segS
  rw [cut_some ns h0 (by omega) h2]
  have e := pre_split ns f.toNat m.toNat
  have ef : nth (psums ns) f = pre ns f.toNat := by
    have := nth_psums ns (j := f.toNat) (by omega)
    rw [← this, Int.toNat_of_nonneg h0]
  have eg : nth (psums ns) (f + m) = pre ns (f.toNat + m.toNat) := by
    have := nth_psums ns (j := f.toNat + m.toNat) (by omega)
    rw [← this]
    congr 1
    omega
  rw [ef, eg, e, show (f + m - f).toNat = m.toNat by omega]
  omega
theorem sum_pre (ns : List Int) : ns.sum = pre ns ns.length := by simp [pre]
/-- what best_of tells -/
structure BestOf (ns : List Int) (least f m : Int) (lows : List Int) : Prop where
  f0 : 0 ≤ f
  m0 : least ≤ m
  fm : f + m ≤ ns.length
  lo : Below (psums ns) least lows (segS ns f m)
/-- lows bound every stretch -/
theorem Below.bound {P lows : List Int} {least told : Int} (h : Below P least lows told) (hl : 0 ≤ least) {a e : Int} (h0 : 0 ≤ a) (h1 : a + least ≤ e) (h2 : e < P.length) : nth P e - nth P a ≤ told := by
  obtain ⟨hn, h⟩ := h
  have key : ∀ (d : Nat) (j : Nat), (j : Int) + least < P.length → (j : Int) = a + d → nth lows j ≤ nth P a := by
    intro d
    induction d with
    | zero =>
      intro j hj e
      have e' : (j : Int) = a := by omega
      have := (h j (by omega)).1
      rw [e'] at this
      rw [e']
      exact this
    | succ d ih =>
      intro j hj e
      have h1 := (h j (by omega)).2.1 (by omega)
      have e2 : ((j - 1 : Nat) : Int) = (j : Int) - 1 := by omega
      have h2 := ih (j - 1) (by omega) (by omega)
      rw [e2] at h2
      omega
  have hj : (((e - least).toNat : Nat) : Int) = e - least := by omega
  have q := key (e - least - a).toNat (e - least).toNat (by omega) (by omega)
  have r := (h (e - least).toNat (by omega)).2.2
  rw [hj] at q r
  rw [show e - least + least = e by omega] at r
  omega
theorem nth_append_left {xs ys : List Int} {i : Int} (h0 : 0 ≤ i) (h : i < xs.length) : nth (xs ++ ys) i = nth xs i := by
  unfold nth
  rw [List.getD_eq_getElem?_getD, List.getD_eq_getElem?_getD, List.getElem?_append_left (by omega)]
theorem nth_append_last {xs : List Int} {y : Int} : nth (xs ++ [y]) (xs.length : Int) = y := by
  simp [nth]
/-- one turn of best_of: i turns are done -/
structure BestTo (P : List Int) (least : Int) (i : Nat) (lows : List Int) (low f m : Int) : Prop where
  ln : lows.length = i
  l0 : 0 ≤ low
  li : low ≤ i ∧ (low < i ∨ (i = 0 ∧ low = 0))
  mn : ∀ k : Nat, k < i → nth P low ≤ nth P k
  la : 0 < i → nth lows ((i : Int) - 1) = nth P low
  f0 : 0 ≤ f
  m0 : least ≤ m
  fm : f + m < P.length
  lo : ∀ j : Nat, j < i → nth lows j ≤ nth P j ∧ (0 < j → nth lows j ≤ nth lows ((j : Int) - 1)) ∧ nth P ((j : Int) + least) - nth lows j ≤ nth P (f + m) - nth P f
theorem bestTo_zero {P : List Int} {least : Int} (h1 : 0 ≤ least) (h2 : least < P.length) : BestTo P least 0 [] 0 0 least :=
  ⟨rfl, Int.le_refl _, by omega, fun k hk => by omega, fun h => by omega, Int.le_refl _, Int.le_refl _, by omega, fun j hj => by omega⟩
theorem bestTo_step {P : List Int} {least : Int} {i : Nat} {lows : List Int} {low f m low' f' m' : Int} (h : BestTo P least i lows low f m) (hl : 0 ≤ least) (hi : (i : Int) + least < P.length)
    (e1 : low' = if nth P i < nth P low then (i : Int) else low)
    (e2 : f' = if nth P ((i : Int) + least) - nth P low' > nth P (f + m) - nth P f then low' else f)
    (e3 : m' = if nth P ((i : Int) + least) - nth P low' > nth P (f + m) - nth P f then (i : Int) + least - low' else m) :
    BestTo P least (i + 1) (lows ++ [nth P low']) low' f' m' := by
  obtain ⟨ln, l0, li, mn, la, f0, m0, fm, lo⟩ := h
  have hlow : 0 ≤ low' ∧ low' ≤ i ∧ nth P low' ≤ nth P i ∧ nth P low' ≤ nth P low := by
    rw [e1]
    split
    · exact ⟨by omega, by omega, Int.le_refl _, by omega⟩
    · rename_i hh
      refine ⟨l0, li.1, by omega, Int.le_refl _⟩
  obtain ⟨a1, a2, a3, a4⟩ := hlow
  have hbest : nth P (f + m) - nth P f ≤ nth P (f' + m') - nth P f' ∧ nth P ((i : Int) + least) - nth P low' ≤ nth P (f' + m') - nth P f' ∧ 0 ≤ f' ∧ least ≤ m' ∧ f' + m' < P.length := by
    rw [e2, e3]
    by_cases c : nth P ((i : Int) + least) - nth P low' > nth P (f + m) - nth P f
    · rw [if_pos c, if_pos c, show low' + ((i : Int) + least - low') = (i : Int) + least by omega]
      refine ⟨by omega, by omega, a1, by omega, hi⟩
    · rw [if_neg c, if_neg c]
      exact ⟨Int.le_refl _, by omega, f0, m0, fm⟩
  obtain ⟨b1, b2, b3, b4, b5⟩ := hbest
  have hlast : nth (lows ++ [nth P low']) (i : Int) = nth P low' := by
    rw [← ln]
    exact nth_append_last
  refine ⟨by simp [ln], a1, ⟨by omega, .inl (by omega)⟩, fun k hk => ?_, fun _ => ?_, b3, b4, b5, fun j hj => ?_⟩
  · by_cases e : k = i
    · subst e; exact a3
    · have := mn k (by omega)
      omega
  · rw [show ((i + 1 : Nat) : Int) - 1 = (i : Int) by omega]
    exact hlast
  · by_cases e : j = i
    · subst e
      rw [hlast]
      refine ⟨a3, fun h0 => ?_, b2⟩
      rw [nth_append_left (by omega) (by omega), la h0]
      exact a4
    · have hj' : j < i := by omega
      obtain ⟨c1, c2, c3⟩ := lo j hj'
      rw [nth_append_left (by omega) (by omega)]
      refine ⟨c1, fun h0 => ?_, by omega⟩
      rw [nth_append_left (by omega) (by omega)]
      exact c2 h0
theorem bestTo_end {ns lows : List Int} {least low f m : Int} {i : Nat} (h : BestTo (psums ns) least i lows low f m) (hl : 0 ≤ least) (hi : (i : Int) = ns.length - least + 1) : BestOf ns least f m lows := by
  obtain ⟨ln, l0, li, mn, la, f0, m0, fm, lo⟩ := h
  have hz := psums_length ns
  refine ⟨f0, m0, by omega, by omega, fun j hj => ?_⟩
  rw [segS_pre ns f0 (by omega) (by omega)]
  exact lo j (by omega)
/-- what an answer with lows shows -/
def BestShow (ns : List Int) (least f m : Int) (lows : List Int) : Prop := IsThere f m ns.length ∧ least ≤ m ∧ Below (psums ns) least lows (segS ns f m)
instance (ns : List Int) (least f m : Int) (lows : List Int) : Decidable (BestShow ns least f m lows) := by unfold BestShow; infer_instance
theorem BestOf.shows {ns lows : List Int} {least f m : Int} (h : BestOf ns least f m lows) (hl : 1 ≤ least) : BestShow ns least f m lows := ⟨⟨h.f0, by have := h.m0; omega, h.fm⟩, h.m0, h.lo⟩
theorem not_below_snoc {P lows : List Int} {least told : Int} {y : Int} (h : Below P least lows told) (t2 : Int) : ¬ Below P least (lows ++ [y]) t2 := by
  intro q
  have h1 := h.1
  have h2 := q.1
  rw [List.length_append, List.length_singleton] at h2
  omega
end Bs

namespace Bs
open PySem L2
/-! ### rings -/
theorem nth_eq {ns : List Int} {i : Nat} (h : i < ns.length) : nth ns i = ns[i] := by simp [nth, h]
theorem pre_append_left (xs ys : List Int) {i : Nat} (h : i ≤ xs.length) : pre (xs ++ ys) i = pre xs i := by
  unfold pre
  rw [List.take_append_of_le_length h]
theorem pre_append_right (xs ys : List Int) (i : Nat) : pre (xs ++ ys) (xs.length + i) = xs.sum + pre ys i := by
  unfold pre
  rw [List.take_length_add_append, List.sum_append]
/-- the sum of a stretch, the row twice -/
def tellR (ns : List Int) (f m : Int) : Int := segS (ns ++ ns) f m
theorem nth_psums2 (ns : List Int) {i : Int} (h0 : 0 ≤ i) (h1 : i ≤ ns.length) : nth (psums (ns ++ ns)) i = nth (psums ns) i := by
  have e1 := nth_psums (ns ++ ns) (j := i.toNat) (by rw [List.length_append]; omega)
  have e2 := nth_psums ns (j := i.toNat) (by omega)
  rw [Int.toNat_of_nonneg h0] at e1 e2
  rw [e1, e2, pre_append_left _ _ (by omega)]
theorem nth_psums3 (ns : List Int) {i : Int} (h0 : 0 ≤ i) (h1 : i ≤ ns.length) : nth (psums (ns ++ ns)) ((ns.length : Int) + i) = ns.sum + nth (psums ns) i := by
  have e1 := nth_psums (ns ++ ns) (j := ns.length + i.toNat) (by rw [List.length_append]; omega)
  have e2 := nth_psums ns (j := i.toNat) (by omega)
  rw [Int.toNat_of_nonneg h0] at e2
  rw [show ((ns.length + i.toNat : Nat) : Int) = (ns.length : Int) + i by omega] at e1
  rw [e1, e2, pre_append_right]
theorem nth_psums_len (ns : List Int) : nth (psums ns) ns.length = ns.sum := by
  rw [nth_psums ns (Nat.le_refl _), sum_pre]
theorem nth_psums_0 (ns : List Int) : nth (psums ns) 0 = 0 := by
  have := nth_psums ns (j := 0) (by omega)
  rw [pre_zero] at this
  exact this
theorem tellR_flat (ns : List Int) {f m : Int} (h0 : 0 ≤ f) (h1 : 0 ≤ m) (h2 : f + m ≤ ns.length) : tellR ns f m = segS ns f m := by
  unfold tellR
  rw [segS_pre _ h0 h1 (by rw [List.length_append]; omega), segS_pre _ h0 h1 h2, nth_psums2 ns (by omega) h2, nth_psums2 ns h0 (by omega)]
theorem tellR_wrap (ns : List Int) {f m : Int} (h0 : 0 ≤ f) (h1 : f ≤ ns.length) (h2 : (ns.length : Int) ≤ f + m) (h3 : m ≤ ns.length) : tellR ns f m = ns.sum + nth (psums ns) (f + m - ns.length) - nth (psums ns) f := by
  unfold tellR
  rw [segS_pre _ h0 (by omega) (by rw [List.length_append]; omega), nth_psums2 ns h0 h1]
  have e := nth_psums3 ns (i := f + m - ns.length) (by omega) (by omega)
  rw [show (ns.length : Int) + (f + m - ns.length) = f + m by omega] at e
  rw [e]
/-- the row within, each with its sign turned -/
def within (ns : List Int) : List Int := (cut ns (some 1) (some (-1))).map fun x => -x
theorem cut_within {ns : List Int} (h : 1 ≤ ns.length) : cut ns (some 1) (some (-1)) = (ns.drop 1).take (ns.length - 2) := by
  unfold cut
  have e1 : HT.sIx ns.length 0 (some 1) = 1 := by
    show (if (1 : Int) < 0 then ((1 : Int) + (ns.length : Int)).toNat else min (1 : Int).toNat ns.length) = 1
    rw [if_neg (by omega)]
    show min 1 ns.length = 1
    omega
  have e2 : HT.sIx ns.length ns.length (some (-1)) = ns.length - 1 := by
    show (if (-1 : Int) < 0 then ((-1 : Int) + (ns.length : Int)).toNat else min (-1 : Int).toNat ns.length) = ns.length - 1
    rw [if_pos (by omega)]
    omega
  rw [e1, e2]
  congr 1
theorem cut_within_len (ns : List Int) : (cut ns (some 1) (some (-1))).length ≤ ns.length := by
  unfold cut
  rw [List.length_take, List.length_drop]
  omega
theorem within_length {ns : List Int} (h : 1 ≤ ns.length) : (within ns).length = ns.length - 2 := by
  unfold within
  rw [List.length_map, cut_within h, List.length_take, List.length_drop]
  omega
theorem within_le (ns : List Int) : (within ns).length ≤ ns.length := by
  unfold within
  rw [List.length_map]
  exact cut_within_len ns
theorem pre_within {ns : List Int} (h : 1 ≤ ns.length) : ∀ i : Nat, i + 2 ≤ ns.length → pre (within ns) i = pre ns 1 - pre ns (i + 1) := by
  intro i
  induction i with
  | zero => intro _; simp [pre_zero]
  | succ i ih =>
    intro hi
    rw [pre_succ (by rw [within_length h]; omega), ih (by omega), pre_succ (i := i + 1) (by omega)]
    have e : nth (within ns) i = - nth ns ((i + 1 : Nat) : Int) := by
      rw [nth_eq (by rw [within_length h]; omega), nth_eq (by omega)]
      simp only [within, cut_within h, List.getElem_map, List.getElem_take, List.getElem_drop, Nat.add_comm 1 i]
    omega
theorem nth_psums_within {ns : List Int} {i : Int} (h0 : 0 ≤ i) (h1 : i + 2 ≤ ns.length) : nth (psums (within ns)) i = nth (psums ns) 1 - nth (psums ns) (i + 1) := by
  have h : 1 ≤ ns.length := by omega
  have e1 := nth_psums (within ns) (j := i.toNat) (by rw [within_length h]; omega)
  have e2 := nth_psums ns (j := i.toNat + 1) (by omega)
  have e3 := nth_psums ns (j := 1) (by omega)
  rw [Int.toNat_of_nonneg h0] at e1
  rw [show ((i.toNat + 1 : Nat) : Int) = i + 1 by omega] at e2
  rw [show ((1 : Nat) : Int) = 1 by omega] at e3
  rw [e1, e2, e3, pre_within h _ (by omega)]
/-- what around tells -/
structure AroundOf (ns : List Int) (f m : Int) (lows tops : List Int) : Prop where
  f0 : 0 ≤ f
  f1 : f < ns.length
  m0 : 1 ≤ m
  m1 : m ≤ ns.length
  lo : Below (psums ns) 1 lows (tellR ns f m)
  tp : 2 < ns.length → Below (psums (within ns)) 1 tops (tellR ns f m - ns.sum)
  te : ¬ 2 < ns.length → tops = []
def AroundShow (ns : List Int) (f m : Int) (lows tops : List Int) : Prop :=
  (0 ≤ f ∧ f < ns.length) ∧ (1 ≤ m ∧ m ≤ ns.length) ∧ (2 < ns.length → Below (psums (within ns)) 1 tops (tellR ns f m - ns.sum)) ∧ Below (psums ns) 1 lows (tellR ns f m) ∧ (2 < ns.length ∨ tops = [])
instance (ns : List Int) (f m : Int) (lows tops : List Int) : Decidable (AroundShow ns f m lows tops) := by unfold AroundShow; infer_instance
theorem AroundOf.shows {ns lows tops : List Int} {f m : Int} (h : AroundOf ns f m lows tops) : AroundShow ns f m lows tops :=
  ⟨⟨h.f0, h.f1⟩, ⟨h.m0, h.m1⟩, h.tp, h.lo, if q : 2 < ns.length then .inl q else .inr (h.te q)⟩
theorem AroundOf.not_more {ns lows tops : List Int} {f m : Int} {y : Int} (h : AroundOf ns f m lows tops) : ¬ AroundShow ns f m lows (tops ++ [y]) := by
  rintro ⟨_, _, q, _, r⟩
  by_cases c : 2 < ns.length
  · exact not_below_snoc (h.tp c) _ (q c)
  · rcases r with r | r
    · exact c r
    · simp at r
/-- every stretch of the ring has no more -/
theorem AroundOf.bound {ns lows tops : List Int} {f m : Int} (h : AroundOf ns f m lows tops) {a b : Int} (h0 : 0 ≤ a) (h1 : a < ns.length) (h2 : 1 ≤ b) (h3 : b ≤ ns.length) : tellR ns a b ≤ tellR ns f m := by
  have hz := psums_length ns
  by_cases c : a + b ≤ ns.length
  · rw [tellR_flat ns h0 (by omega) c, segS_pre ns h0 (by omega) c]
    exact h.lo.bound (by omega) h0 (by omega) (by omega)
  · rw [tellR_wrap ns h0 (by omega) (by omega) h3]
    by_cases e : b = ns.length
    · have q := h.lo.bound (by omega) (a := 0) (e := ns.length) (by omega) (by omega) (by omega)
      rw [nth_psums_len, nth_psums_0] at q
      rw [show a + b - (ns.length : Int) = a by omega]
      omega
    · have hw := within_length (ns := ns) (by omega)
      have q := (h.tp (by omega)).bound (by omega) (a := a + b - ns.length - 1) (e := a - 1) (by omega) (by omega) (by rw [psums_length]; omega)
      rw [nth_psums_within (by omega) (by omega), nth_psums_within (by omega) (by omega), show a - 1 + 1 = a by omega, show a + b - (ns.length : Int) - 1 + 1 = a + b - ns.length by omega] at q
      omega
/-! ### the sum place by place -/
def rsum (ns : List Int) (f : Int) : Nat → Int
  | 0 => 0
  | m + 1 => rsum ns f m + nth ns ((f + m) % ns.length)
theorem rsum_mod (ns : List Int) (f : Int) : ∀ m : Nat, rsum ns f m = rsum ns (f % ns.length) m
  | 0 => rfl
  | m + 1 => by
    rw [rsum, rsum, rsum_mod ns f m, Int.emod_add_emod]
theorem nth_double {ns : List Int} {i : Int} (h0 : 0 ≤ i) (h1 : i < 2 * ns.length) (hn : 0 < ns.length) : nth (ns ++ ns) i = nth ns (i % ns.length) := by
  by_cases c : i < ns.length
  · rw [nth_append_left h0 c, Int.emod_eq_of_lt h0 c]
  · have e : i % ns.length = i - ns.length := by
      rw [← Int.sub_emod_right, Int.emod_eq_of_lt (by omega) (by omega)]
    rw [e]
    unfold nth
    rw [List.getD_eq_getElem?_getD, List.getD_eq_getElem?_getD, List.getElem?_append_right (by omega)]
    congr 2
    omega
theorem rsum_tell (ns : List Int) {f : Int} (h0 : 0 ≤ f) (h1 : f < ns.length) : ∀ m : Nat, m ≤ ns.length → rsum ns f m = tellR ns f m
  | 0, _ => by
    unfold tellR
    rw [segS_pre _ h0 (by omega) (by rw [List.length_append]; omega)]
    simp [rsum]
  | m + 1, h => by
    rw [rsum, rsum_tell ns h0 h1 m (by omega)]
    unfold tellR
    rw [segS_pre _ h0 (by omega) (by rw [List.length_append]; omega), segS_pre _ h0 (by omega) (by rw [List.length_append]; omega)]
    have e := nth_psums (ns ++ ns) (j := (f + m).toNat) (by rw [List.length_append]; omega)
    have e' := nth_psums (ns ++ ns) (j := (f + m).toNat + 1) (by rw [List.length_append]; omega)
    rw [pre_succ (by rw [List.length_append]; omega), Int.toNat_of_nonneg (by omega), nth_double (by omega) (by omega) (by omega)] at e'
    rw [Int.toNat_of_nonneg (by omega)] at e
    rw [show (((f + m).toNat + 1 : Nat) : Int) = f + ((m + 1 : Nat) : Int) by omega] at e'
    omega
theorem AroundOf.rbound {ns lows tops : List Int} {f m : Int} (h : AroundOf ns f m lows tops) (a : Int) {b : Nat} (h2 : 1 ≤ b) (h3 : b ≤ ns.length) : rsum ns a b ≤ tellR ns f m := by
  have hn : 0 < ns.length := by omega
  rw [rsum_mod, rsum_tell ns (Int.emod_nonneg _ (by omega)) (Int.emod_lt_of_pos _ (by omega)) b h3]
  exact h.bound (Int.emod_nonneg _ (by omega)) (Int.emod_lt_of_pos _ (by omega)) (by omega) (by omega)
/-! ### turned by a place -/
def turn1 (ns : List Int) : List Int := cut ns (some 1) none ++ cut ns none (some 1)
theorem turn1_eq {ns : List Int} (h : 1 ≤ ns.length) : turn1 ns = ns.drop 1 ++ ns.take 1 := by
  unfold turn1 cut
  have e1 : HT.sIx ns.length 0 (some 1) = 1 := by
    show (if (1 : Int) < 0 then ((1 : Int) + (ns.length : Int)).toNat else min (1 : Int).toNat ns.length) = 1
    rw [if_neg (by omega)]
    show min 1 ns.length = 1
    omega
  have e2 : HT.sIx ns.length ns.length (some 1) = 1 := by
    show (if (1 : Int) < 0 then ((1 : Int) + (ns.length : Int)).toNat else min (1 : Int).toNat ns.length) = 1
    rw [if_neg (by omega)]
    show min 1 ns.length = 1
    omega
  rw [e1, e2]
  have e3 : HT.sIx ns.length ns.length none = ns.length := rfl
  have e4 : HT.sIx ns.length 0 none = 0 := rfl
  rw [e3, e4]
  rw [List.take_of_length_le (by rw [List.length_drop]; omega)]
  rfl
theorem turn1_length {ns : List Int} (h : 1 ≤ ns.length) : (turn1 ns).length = ns.length := by
  rw [turn1_eq h, List.length_append, List.length_drop, List.length_take]
  omega
theorem nth_turn1 {ns : List Int} (h : 1 ≤ ns.length) {i : Int} (h0 : 0 ≤ i) (h1 : i < ns.length) : nth (turn1 ns) i = nth ns ((i + 1) % ns.length) := by
  rw [turn1_eq h]
  by_cases c : i + 1 < ns.length
  · rw [nth_append_left h0 (by rw [List.length_drop]; omega), Int.emod_eq_of_lt (by omega) c]
    unfold nth
    rw [List.getD_eq_getElem?_getD, List.getD_eq_getElem?_getD, List.getElem?_drop]
    congr 2
    omega
  · have e : i + 1 = ns.length := by omega
    rw [e, Int.emod_self]
    unfold nth
    rw [List.getD_eq_getElem?_getD, List.getD_eq_getElem?_getD, List.getElem?_append_right (by rw [List.length_drop]; omega), List.length_drop, List.getElem?_take]
    rw [if_pos (by omega)]
    congr 2
    omega
theorem rsum_turn1 {ns : List Int} (h : 1 ≤ ns.length) (f : Int) : ∀ m : Nat, rsum (turn1 ns) f m = rsum ns (f + 1) m
  | 0 => rfl
  | m + 1 => by
    rw [rsum, rsum, rsum_turn1 h f m, turn1_length h, nth_turn1 h (Int.emod_nonneg _ (by omega)) (Int.emod_lt_of_pos _ (by omega)), Int.emod_add_emod]
    congr 3
    omega
/-- both tell as much -/
theorem turn1_same {ns l1 t1 l2 t2 : List Int} {f1 m1 f2 m2 : Int} (h : 1 ≤ ns.length) (A : AroundOf ns f1 m1 l1 t1) (B : AroundOf (turn1 ns) f2 m2 l2 t2) : tellR (turn1 ns) f2 m2 = tellR ns f1 m1 := by
  have hl := turn1_length h
  have a1 := A.m0; have a2 := A.m1; have b1 := B.m0; have b2 := B.m1
  have b3 := B.f1; have a3 := A.f1
  rw [hl] at b2 b3
  have e2 := rsum_tell (turn1 ns) B.f0 B.f1 m2.toNat (by omega)
  have e1 := rsum_tell ns A.f0 A.f1 m1.toNat (by omega)
  rw [show (m2.toNat : Int) = m2 by omega] at e2
  rw [show (m1.toNat : Int) = m1 by omega] at e1
  have q1 := A.rbound (f2 + 1) (b := m2.toNat) (by omega) (by omega)
  have q2 := B.rbound (f1 - 1) (b := m1.toNat) (by omega) (by omega)
  rw [rsum_turn1 h] at e2 q2
  rw [show f1 - 1 + 1 = f1 by omega] at q2
  omega
/-- from two best stretches -/
theorem around_small {ns lows : List Int} {f m : Int} (hn : 1 ≤ ns.length) (h : ¬ 2 < ns.length) (B : BestOf ns 1 f m lows) : AroundOf ns f m lows [] := by
  have b1 := B.f0; have b2 := B.m0; have b3 := B.fm
  refine ⟨b1, by omega, b2, by omega, ?_, fun c => absurd c h, fun _ => rfl⟩
  rw [tellR_flat ns b1 (by omega) b3]
  exact B.lo
theorem below_more {P lows : List Int} {least t t' : Int} (h : Below P least lows t) (ht : t ≤ t') : Below P least lows t' := ⟨h.1, fun i hi => by
  obtain ⟨a, b, c⟩ := h.2 i hi
  exact ⟨a, b, by omega⟩⟩
theorem around_flat {ns lows tops : List Int} {f m i c : Int} (h : 2 < ns.length) (B : BestOf ns 1 f m lows) (W : BestOf (within ns) 1 i c tops) (hc : ¬ ns.sum + segS (within ns) i c > segS ns f m) : AroundOf ns f m lows tops := by
  have b1 := B.f0; have b2 := B.m0; have b3 := B.fm
  refine ⟨b1, by omega, b2, by omega, ?_, fun _ => ?_, fun c => absurd h c⟩
  · rw [tellR_flat ns b1 (by omega) b3]
    exact B.lo
  · rw [tellR_flat ns b1 (by omega) b3]
    exact below_more W.lo (by omega)
theorem around_wrap {ns lows tops : List Int} {f m i c : Int} (h : 2 < ns.length) (B : BestOf ns 1 f m lows) (W : BestOf (within ns) 1 i c tops) (hc : ns.sum + segS (within ns) i c > segS ns f m) : AroundOf ns (i + 1 + c) (ns.length - c) lows tops := by
  have w1 := W.f0; have w2 := W.m0; have w3 := W.fm
  rw [within_length (by omega)] at w3
  have e : tellR ns (i + 1 + c) (ns.length - c) = ns.sum + segS (within ns) i c := by
    rw [tellR_wrap ns (by omega) (by omega) (by omega) (by omega), segS_pre _ w1 (by omega) (by rw [within_length (by omega)]; omega), nth_psums_within (by omega) (by omega), nth_psums_within w1 (by omega)]
    rw [show i + 1 + c + ((ns.length : Int) - c) - ns.length = i + 1 by omega, show i + c + 1 = i + 1 + c by omega]
    omega
  refine ⟨by omega, by omega, by omega, by omega, ?_, fun _ => ?_, fun c => absurd h c⟩
  · rw [e]
    exact below_more B.lo (by omega)
  · rw [e]
    exact below_more W.lo (by omega)
end Bs

namespace Bs
open PySem PySem.Spec PyProof.Rows L2
/-- sorted(d) of a dict whose keys are ints, up to a thousand of them -/
def cSortedD (_ : PySem.W.Frag) : List V → Hp → VK → Prop := fun xs H Q => ∃ (d : Addr) (kvs : List (Key × V)) (ks : List Int), xs = [.ref d] ∧ H d = some (.dK kvs) ∧ kvs.map (·.1) = ks.map Sum.inl ∧ ks.length ≤ 1000 ∧
  ∀ (zs : List Int) (p : Addr), zs.Perm ks → zs.Pairwise (· ≤ ·) → H p = none → Q (.ref p) (upd H p (.lst (zs.map V.int)))
theorem c_sortedD {X : Cx} (hcalm : X.calm = true) : CallR X (.builtin "sorted") (cSortedD X.K) := by
  rintro pins s σ H xs us Q I r ⟨d, kvs, ks, rfl, hd, hks, hlen, want⟩
  obtain ⟨u, rfl, ru⟩ := vals1 r
  cases ru
  obtain ⟨_, low, ws, rel, at0⟩ := dk_rd I.hok (.inl hd)
  obtain ⟨ep, at1⟩ := at0.dictAt
  have same : ws.map (·.1) = ks.map Sum.inl := rel.keys.symm.trans hks
  have wl : ws.length = ks.length := by
    have e := congrArg List.length same
    simpa using e
  have lim : (100000 : Nat) ≤ sizeLine := by decide
  refine Calls.call_function_entry kind_sorted plain_sorted entry_sorted (args_sorted1 _) ?_
  unfold Builtin.«sorted»
  refine wpAny_bind (m := checkCount "sorted" 1 1 _) (wpAny_pure ?_)
  refine wpAny_bind (PySem.W.kdu_collect (A := X.A.in1) (PySem.W.kdl_dict (knd := mixKind X.prog X.w) (kvs := ws) (ep := ep) low) (I.ok.hd hcalm) at1 (by omega) ?_)
  intro g tk got kept told
  have gl : got.toList.length = ks.length := by rw [Array.length_toList, told.1, wl]
  have arI : IntsAre got.toList ks := by
    refine ints_each gl ?_
    intro j v ev
    obtain ⟨k, x, q1, q2⟩ := told.2 j v (by rw [← Array.getElem?_toList]; exact ev)
    have q3 : (ks.map (Sum.inl : Int → Key))[j]? = some k := by
      rw [← same, List.getElem?_map, q1]
      rfl
    rw [List.getElem?_map] at q3
    rcases q4 : ks[j]? with _ | y
    · rw [q4] at q3
      cases q3
    · rw [q4] at q3
      cases Option.some.inj q3
      rcases keyIs_shape (show keyIs (Sum.inl y) v = true from q2) with ⟨i, t, ek, ev⟩ | ⟨z, t, ek, ev⟩
      · cases ek
        exact ⟨y, t, rfl, ev⟩
      · cases ek
  have J : Inv X pins σ H { s with heap := g, toks := tk } := I.kept kept
  refine wpAny_bind (wpAny_newList ?_ (by rw [gl]; omega))
  have new : (g.push (seqObj "list" got.toList.toArray 0)).get? g.objs.size = some (seqObj "list" got.toList.toArray 0) := Heap.get?_push_size _ rfl
  show wpAny _ _ _ _ _ { s with heap := g.push (seqObj "list" got.toList.toArray 0), toks := tk }
  refine wpAny_bind (wpAny_holding (wpAny_call_entry slot_list_sort ⟨_, new, rfl⟩ entry_list_sort ?_ (args_list_sort _)))
  refine SrtO.list_sort_ord SrtO.swo_int new (by rw [gl]; omega) (fun h2 => SrtO.ints_sortable arI h2) ?_
  intro out o1 o2
  refine ⟨_, rfl, ?_⟩
  obtain ⟨n1, n2, n3⟩ := SrtO.ints_out arI o1 o2
  obtain ⟨e2, at2⟩ := sortedHeap_at (vs := got.toList) (out := out.toArray) new
  have zl : ((out.map SrtO.iv).map V.int).length ≤ sizeLine := by
    rw [List.length_map, n2.length_eq]
    omega
  refine wpAny_pure ⟨_, rfl, .ref g.objs.size, upd H g.objs.size (.lst ((out.map SrtO.iv).map V.int)), ?_, rfl, want _ _ n2 n3 (J.hok.fresh (Nat.le_refl _))⟩
  refine J.laid (t' := tk) (fun b w e => ?_) (Nat.le_refl _) (show ObjOk X.prog X.w _ _ _ (.lst ((out.map SrtO.iv).map V.int)) from ⟨zl, out, e2, vals_of_ints n1, at2⟩)
  have lt : b < g.objs.size := Heap.lt_size e
  rw [sortedHeap_old (Nat.ne_of_lt lt) (by rw [size_push']; exact Nat.lt_succ_of_lt lt)]
  exact Heap.get?_push_of_some _ e
end Bs

namespace Bs
open PySem L2
/-! ### tables of triples -/
structure R3 where
  ad : Addr
  n : Int
  f : Int
  l : Int
def Rows (H : Hp) (rs : List R3) : Prop := ∀ r ∈ rs, H r.ad = some (.tup [.int r.n, .int r.f, .int r.l])
def refs3 (rs : List R3) : List V := rs.map fun r => V.ref r.ad
theorem refs3_length (rs : List R3) : (refs3 rs).length = rs.length := by simp [refs3]
theorem Rows.same {H H' : Hp} {rs : List R3} (h : Rows H rs) (s : Same H H') : Rows H' rs := fun r hr => s _ _ (h r hr)
theorem Rows.get {H : Hp} {rs : List R3} (h : Rows H rs) {i : Nat} (hi : i < rs.length) : H rs[i].ad = some (.tup [.int rs[i].n, .int rs[i].f, .int rs[i].l]) := h _ (List.getElem_mem hi)
theorem refs3_get {rs : List R3} {i : Nat} (hi : i < rs.length) : (refs3 rs)[i]? = some (.ref rs[i].ad) := by simp [refs3, hi]
def lk3 (rs : List R3) (v : Int) : Option R3 := rs.find? fun r => decide (r.n = v)
theorem lk3_mem {rs : List R3} {v : Int} {r : R3} (h : lk3 rs v = some r) : r ∈ rs ∧ r.n = v := ⟨List.mem_of_find?_eq_some h, by simpa using List.find?_some h⟩
theorem lk3_none {rs : List R3} {v : Int} (h : lk3 rs v = none) : ∀ r ∈ rs, r.n ≠ v := by
  intro r hr
  have := List.find?_eq_none.mp h r hr
  simpa using this
def rising (rs : List R3) : Bool := (List.range (rs.length - 1)).all fun i => !decide ((rs.getD (i + 1) ⟨0, 0, 0, 0⟩).n ≤ (rs.getD i ⟨0, 0, 0, 0⟩).n)
def inTab (ns : List Int) (rs : List R3) (i : Nat) : Bool := match lk3 rs (nth (psums ns) i) with
  | none => false
  | some r => decide (r.f ≤ i) && decide ((i : Int) ≤ r.l)
def noGap (t : Int) (rs : List R3) (r : R3) : Bool := match lk3 rs (r.n + t) with
  | none => true
  | some q => !decide (r.f < q.l)
/-- the word of an answer Never -/
def neverB (ns : List Int) (t : Int) (rs : List R3) : Bool := rising rs && ((List.range (ns.length + 1)).all (inTab ns rs) && rs.all (noGap t rs))
theorem rising_lt {rs : List R3} (h : rising rs = true) {i : Nat} (hi : i + 1 < rs.length) : rs[i].n < rs[i + 1].n := by
  unfold rising at h
  rw [List.all_eq_true] at h
  have := h i (List.mem_range.mpr (by omega))
  simp only [Bool.not_eq_true', decide_eq_false_iff_not, List.getD_eq_getElem?_getD, List.getElem?_eq_getElem hi, List.getElem?_eq_getElem (show i < rs.length by omega), Option.getD_some] at this
  omega
theorem rising_lt2 {rs : List R3} (h : ∀ i : Nat, (hi : i + 1 < rs.length) → rs[i].n < rs[i + 1].n) {i : Nat} : ∀ {j : Nat} (hj : j < rs.length) (hij : i < j), (rs[i]'(by omega)).n < rs[j].n
  | j + 1, hj, hij => by
    have h1 := h j hj
    by_cases e : i = j
    · subst e; exact h1
    · have := rising_lt2 h (i := i) (j := j) (by omega) (by omega)
      omega
theorem rising_inj {rs : List R3} (h : rising rs = true) {i j : Nat} (hi : i < rs.length) (hj : j < rs.length) (e : rs[i].n = rs[j].n) : i = j := by
  rcases Nat.lt_trichotomy i j with c | c | c
  · have := rising_lt2 (fun i hi => rising_lt h hi) hj c
    omega
  · exact c
  · have := rising_lt2 (fun i hi => rising_lt h hi) hi c
    omega
theorem lk3_at {rs : List R3} (h : rising rs = true) {i : Nat} (hi : i < rs.length) : lk3 rs rs[i].n = some rs[i] := by
  cases e : lk3 rs rs[i].n with
  | none => exact absurd rfl (lk3_none e _ (List.getElem_mem hi))
  | some r =>
    obtain ⟨hm, hn⟩ := lk3_mem e
    obtain ⟨j, hj, rfl⟩ := List.getElem_of_mem hm
    have := rising_inj h hj hi hn
    subst this
    rfl
/-- the two dicts -/
def fD (rs : List R3) : List (Key × V) := rs.map fun r => (Sum.inl r.n, V.int r.f)
def lD (rs : List R3) : List (Key × V) := rs.map fun r => (Sum.inl r.n, V.int r.l)
theorem valV_mk (g : R3 → V) (rs : List R3) (v : Int) : valV (rs.map fun r => ((Sum.inl r.n : Key), g r)) (.inl v) = (lk3 rs v).map g := by
  induction rs with
  | nil => rfl
  | cons r rs ih =>
    by_cases e : r.n = v
    · subst e
      rw [List.map_cons, valV_pos rfl]
      simp [lk3]
    · have e' : ¬ ((Sum.inl r.n : Key) = Sum.inl v) := fun z => e (Sum.inl.inj z)
      rw [List.map_cons, valV_neg e', ih]
      simp [lk3, List.find?_cons, e]
theorem valV_fD (rs : List R3) (v : Int) : valV (fD rs) (.inl v) = (lk3 rs v).map fun r => .int r.f := valV_mk _ rs v
theorem valV_lD (rs : List R3) (v : Int) : valV (lD rs) (.inl v) = (lk3 rs v).map fun r => .int r.l := valV_mk _ rs v
theorem take_succ_eq {α : Type} {l : List α} {i : Nat} (hi : i < l.length) : l.take (i + 1) = l.take i ++ [l[i]] := by
  rw [List.take_add_one, List.getElem?_eq_getElem hi]
  rfl
theorem fresh_key {rs : List R3} (h : ∀ i : Nat, (hi : i + 1 < rs.length) → rs[i].n < rs[i + 1].n) {i : Nat} (hi : i < rs.length) : lk3 (rs.take i) rs[i].n = none := by
  cases e : lk3 (rs.take i) rs[i].n with
  | none => rfl
  | some r =>
    obtain ⟨hm, hn⟩ := lk3_mem e
    obtain ⟨j, hj, rfl⟩ := List.getElem_of_mem hm
    rw [List.length_take] at hj
    rw [List.getElem_take] at hn
    have := rising_lt2 h hi (show j < i by omega)
    omega
theorem fD_put {rs : List R3} (h : ∀ i : Nat, (hi : i + 1 < rs.length) → rs[i].n < rs[i + 1].n) {i : Nat} (hi : i < rs.length) : putK (fD (rs.take i)) (.inl rs[i].n) (.int rs[i].f) = fD (rs.take (i + 1)) := by
  rw [putK_new _ (by rw [valV_fD, fresh_key h hi]; rfl), take_succ_eq hi]
  unfold fD
  rw [List.map_append]
  rfl
theorem lD_put {rs : List R3} (h : ∀ i : Nat, (hi : i + 1 < rs.length) → rs[i].n < rs[i + 1].n) {i : Nat} (hi : i < rs.length) : putK (lD (rs.take i)) (.inl rs[i].n) (.int rs[i].l) = lD (rs.take (i + 1)) := by
  rw [putK_new _ (by rw [valV_lD, fresh_key h hi]; rfl), take_succ_eq hi]
  unfold lD
  rw [List.map_append]
  rfl
theorem put_take {rs : List R3} {i : Nat} (h : ∀ j : Nat, (hj : j + 1 < rs.length) → j < i → rs[j].n < rs[j + 1].n) (hi : i < rs.length) :
    putK (fD (rs.take i)) (.inl rs[i].n) (.int rs[i].f) = fD (rs.take (i + 1)) ∧ putK (lD (rs.take i)) (.inl rs[i].n) (.int rs[i].l) = lD (rs.take (i + 1)) := by
  have hl : (rs.take (i + 1)).length = i + 1 := by rw [List.length_take]; omega
  have h' : ∀ j : Nat, (hj : j + 1 < (rs.take (i + 1)).length) → (rs.take (i + 1))[j].n < (rs.take (i + 1))[j + 1].n := by
    intro j hj
    rw [List.getElem_take, List.getElem_take]
    exact h j (by omega) (by omega)
  have q1 := fD_put h' (i := i) (by omega)
  have q2 := lD_put h' (i := i) (by omega)
  have e1 : (rs.take (i + 1)).take i = rs.take i := by rw [List.take_take]; congr 1; omega
  have e2 : (rs.take (i + 1)).take (i + 1) = rs.take (i + 1) := by rw [List.take_take]; congr 1; omega
  rw [e1, e2, List.getElem_take] at q1 q2
  exact ⟨q1, q2⟩
theorem fD_length (rs : List R3) : (fD rs).length = rs.length := by simp [fD]
theorem lD_length (rs : List R3) : (lD rs).length = rs.length := by simp [lD]
theorem not_rising {rs : List R3} {i : Nat} (hi : i + 1 < rs.length) (h : ¬ rs[i].n < rs[i + 1].n) : rising rs = false := by
  cases e : rising rs with
  | false => rfl
  | true => exact absurd (rising_lt e hi) h
theorem rising_of {rs : List R3} (h : ∀ i : Nat, (hi : i + 1 < rs.length) → rs[i].n < rs[i + 1].n) : rising rs = true := by
  unfold rising
  rw [List.all_eq_true]
  intro i hi
  rw [List.mem_range] at hi
  have h1 : i + 1 < rs.length := by omega
  have := h i h1
  simp only [Bool.not_eq_true', decide_eq_false_iff_not, List.getD_eq_getElem?_getD, List.getElem?_eq_getElem h1, List.getElem?_eq_getElem (show i < rs.length by omega), Option.getD_some]
  omega
/-! ### pairs by places -/
theorem pairs_nonneg (t : Int) : ∀ l : List Int, 0 ≤ pairs t l
  | [] => Int.le_refl _
  | x :: r => by
    have := pairs_nonneg t r
    rw [pairs]
    omega
theorem pairs_pos (t : Int) : ∀ (l : List Int) (i j : Nat), i < j → j < l.length → nth l j - nth l i = t → 0 < pairs t l
  | [], i, j, _, h, _ => by simp at h
  | x :: r, 0, j + 1, _, h, e => by
    have hj : j < r.length := by simpa using h
    have e1 : nth (x :: r) ((0 : Nat) : Int) = x := rfl
    have e2 : nth (x :: r) ((j + 1 : Nat) : Int) = r[j] := by simp [nth, hj]
    rw [e1, e2] at e
    have hm : x + t ∈ r := by
      have : x + t = r[j] := by omega
      rw [this]
      exact List.getElem_mem hj
    have := List.count_pos_iff.mpr hm
    have := pairs_nonneg t r
    rw [pairs]
    omega
  | x :: r, i + 1, j + 1, hij, h, e => by
    have hj : j < r.length := by simpa using h
    have hi : i < r.length := by omega
    have e1 : nth (x :: r) ((i + 1 : Nat) : Int) = nth r i := by simp [nth, hi]
    have e2 : nth (x :: r) ((j + 1 : Nat) : Int) = nth r j := by simp [nth, hj]
    rw [e1, e2] at e
    have := pairs_pos t r i j (by omega) hj e
    rw [pairs]
    omega
theorem pairs_zero (t : Int) : ∀ l : List Int, (∀ i j : Nat, i < j → j < l.length → nth l j - nth l i ≠ t) → pairs t l = 0
  | [], _ => rfl
  | x :: r, h => by
    have h1 : r.count (x + t) = 0 := by
      apply List.count_eq_zero.mpr
      intro hm
      obtain ⟨j, hj, e⟩ := List.getElem_of_mem hm
      refine h 0 (j + 1) (by omega) (by simpa using hj) ?_
      have e1 : nth (x :: r) ((0 : Nat) : Int) = x := rfl
      have e2 : nth (x :: r) ((j + 1 : Nat) : Int) = r[j] := by simp [nth, hj]
      rw [e1, e2, e]
      omega
    have h2 := pairs_zero t r fun i j hij hj e => h (i + 1) (j + 1) (by omega) (by simpa using hj) (by
      have hi : i < r.length := by omega
      have e1 : nth (x :: r) ((i + 1 : Nat) : Int) = nth r i := by simp [nth, hi]
      have e2 : nth (x :: r) ((j + 1 : Nat) : Int) = nth r j := by simp [nth, hj]
      rw [e1, e2]
      exact e)
    rw [pairs, h1, h2]
    rfl
theorem pairs_drop (t : Int) {l : List Int} {a : Nat} (h : a < l.length) : pairs t (l.drop a) = ((l.drop (a + 1)).count (nth l a + t) : Int) + pairs t (l.drop (a + 1)) := by
  rw [List.drop_eq_getElem_cons h, pairs]
  have : nth l a = l[a] := by simp [nth, h]
  rw [this]
theorem count_drop (l : List Int) (a : Nat) (y : Int) : (l.drop a).count y = ((List.range (l.length - a)).filter fun j : Nat => decide (nth l ((a : Int) + j) = y)).length := by
  have e : l.drop a = (List.range (l.length - a)).map fun j : Nat => nth l ((a : Int) + j) := by
    apply List.ext_getElem
    · simp
    · intro i h1 h2
      simp at h1
      rw [List.getElem_drop, List.getElem_map, List.getElem_range]
      have : a + i < l.length := by omega
      unfold nth
      rw [show ((a : Int) + (i : Int)).toNat = a + i by omega]
      simp [this]
  rw [e, List.count_eq_countP, List.countP_map, List.countP_eq_length_filter]
  congr 1
/-! ### what exact has seen -/
def SeenF (P : List Int) (i : Nat) (kvs : List (Key × V)) : Prop := ∀ v : Int, match valV kvs (.inl v) with
  | none => ∀ j : Nat, j < i → nth P j ≠ v
  | some w => ∃ j : Nat, j < i ∧ w = .int j ∧ nth P j = v ∧ ∀ m : Nat, m < j → nth P m ≠ v
def SeenL (P : List Int) (i : Nat) (kvs : List (Key × V)) : Prop := ∀ v : Int, match valV kvs (.inl v) with
  | none => ∀ j : Nat, j < i → nth P j ≠ v
  | some w => ∃ j : Nat, j < i ∧ w = .int j ∧ nth P j = v ∧ ∀ m : Nat, j < m → m < i → nth P m ≠ v
theorem seenF_zero (P : List Int) : SeenF P 0 [] := fun v => by
  rw [valV_nil]
  intro j hj
  omega
theorem seenL_zero (P : List Int) : SeenL P 0 [] := fun v => by
  rw [valV_nil]
  intro j hj
  omega
theorem SeenF.put {P : List Int} {i : Nat} {kvs : List (Key × V)} (h : SeenF P i kvs) (hn : valV kvs (.inl (nth P i)) = none) : SeenF P (i + 1) (putK kvs (.inl (nth P i)) (.int i)) := fun v => by
  rw [valV_put]
  by_cases e : v = nth P i
  · subst e
    rw [if_pos rfl]
    have := h (nth P i)
    rw [hn] at this
    exact ⟨i, by omega, rfl, rfl, fun m hm => this m hm⟩
  · have e' : ¬ ((Sum.inl v : Key) = Sum.inl (nth P i)) := fun z => e (Sum.inl.inj z)
    rw [if_neg e']
    have := h v
    split at this
    · intro j hj
      by_cases c : j = i
      · subst c; exact fun z => e z.symm
      · exact this j (by omega)
    · obtain ⟨j, h1, h2, h3, h4⟩ := this
      exact ⟨j, by omega, h2, h3, h4⟩
theorem SeenF.keep {P : List Int} {i : Nat} {kvs : List (Key × V)} (h : SeenF P i kvs) {w : V} (hn : valV kvs (.inl (nth P i)) = some w) : SeenF P (i + 1) kvs := fun v => by
  have := h v
  split at this
  · rename_i hv
    intro j hj
    by_cases c : j = i
    · subst c
      intro z
      rw [z, hv] at hn
      cases hn
    · exact this j (by omega)
  · obtain ⟨j, h1, h2, h3, h4⟩ := this
    exact ⟨j, by omega, h2, h3, h4⟩
theorem SeenL.put {P : List Int} {i : Nat} {kvs : List (Key × V)} (h : SeenL P i kvs) : SeenL P (i + 1) (putK kvs (.inl (nth P i)) (.int i)) := fun v => by
  rw [valV_put]
  by_cases e : v = nth P i
  · subst e
    rw [if_pos rfl]
    exact ⟨i, by omega, rfl, rfl, fun m h1 h2 => by omega⟩
  · have e' : ¬ ((Sum.inl v : Key) = Sum.inl (nth P i)) := fun z => e (Sum.inl.inj z)
    rw [if_neg e']
    have := h v
    split at this
    · intro j hj
      by_cases c : j = i
      · subst c; exact fun z => e z.symm
      · exact this j (by omega)
    · obtain ⟨j, h1, h2, h3, h4⟩ := this
      refine ⟨j, by omega, h2, h3, fun m hm hm2 => ?_⟩
      by_cases c : m = i
      · subst c; exact fun z => e z.symm
      · exact h4 m hm (by omega)
/-- the keys, in the order they came -/
def KeysI (kvs : List (Key × V)) (ks : List Int) : Prop := kvs.map (·.1) = ks.map Sum.inl ∧ ks.Nodup
theorem keysI_nil : KeysI [] [] := ⟨rfl, List.nodup_nil⟩
theorem KeysI.put {kvs : List (Key × V)} {ks : List Int} {v : Int} {w : V} (h : KeysI kvs ks) (hn : valV kvs (.inl v) = none) : KeysI (putK kvs (.inl v) w) (ks ++ [v]) := by
  refine ⟨by rw [putK_new _ hn, List.map_append, h.1]; simp, nd_snoc h.2 fun hm => ?_⟩
  have : (Sum.inl v : Key) ∈ kvs.map (·.1) := by
    rw [h.1]
    exact List.mem_map.mpr ⟨v, hm, rfl⟩
  exact valV_not hn this
theorem KeysI.mem {kvs : List (Key × V)} {ks : List Int} {v : Int} {w : V} (h : KeysI kvs ks) (e : valV kvs (.inl v) = some w) : v ∈ ks := by
  have := valV_in e
  rw [h.1] at this
  obtain ⟨u, hu, e2⟩ := List.mem_map.mp this
  cases Sum.inl.inj e2
  exact hu
theorem KeysI.has {kvs : List (Key × V)} {ks : List Int} {v : Int} (h : KeysI kvs ks) (hv : v ∈ ks) : ∃ w, valV kvs (.inl v) = some w := by
  cases e : valV kvs (.inl v) with
  | some w => exact ⟨w, rfl⟩
  | none =>
    have := valV_not e
    rw [h.1] at this
    exact absurd (List.mem_map.mpr ⟨v, hv, rfl⟩) this
/-- no earlier sum parts from a sum by t -/
def NoPair (P : List Int) (t : Int) (i : Nat) : Prop := ∀ a b : Nat, a < b → b < i → nth P b - nth P a ≠ t
/-- the numbers of a table, each with its first and its last place -/
def tabOf (P : List Int) (z : Int) (r : R3) : Prop := r.n = z ∧ (∃ j : Nat, j < P.length ∧ r.f = j ∧ nth P j = z ∧ ∀ m : Nat, m < j → nth P m ≠ z) ∧ ∃ j : Nat, j < P.length ∧ r.l = j ∧ nth P j = z ∧ ∀ m : Nat, j < m → m < P.length → nth P m ≠ z
theorem never_holds {ns : List Int} {t : Int} {zs : List Int} {rs : List R3} (hr : rs.length = zs.length) (hrow : ∀ (i : Nat) (h : i < rs.length), tabOf (psums ns) (zs[i]'(by omega)) rs[i]) (hs : zs.Pairwise (· ≤ ·)) (hn : zs.Nodup)
    (hall : ∀ j : Nat, j < (psums ns).length → nth (psums ns) j ∈ zs) (hp : NoPair (psums ns) t (psums ns).length) : neverB ns t rs = true := by
  have hz := psums_length ns
  have hris : rising rs = true := rising_of fun i hi => by
    have h1 := (hrow i (by omega)).1
    have h2 := (hrow (i + 1) hi).1
    rw [h1, h2]
    have q1 := List.pairwise_iff_getElem.mp hs i (i + 1) (by omega) (by omega) (by omega)
    have q2 := List.pairwise_iff_getElem.mp hn i (i + 1) (by omega) (by omega) (by omega)
    omega
  unfold neverB
  rw [hris, Bool.true_and, Bool.and_eq_true, List.all_eq_true, List.all_eq_true]
  constructor
  · intro i hi
    rw [List.mem_range] at hi
    obtain ⟨k, hk, e⟩ := List.getElem_of_mem (hall i (by omega))
    have hkr : k < rs.length := by omega
    have hrk := hrow k hkr
    have el : lk3 rs (nth (psums ns) i) = some rs[k] := by
      rw [← e, ← hrk.1]
      exact lk3_at hris hkr
    unfold inTab
    rw [el]
    obtain ⟨_, ⟨j1, a1, a2, a3, a4⟩, ⟨j2, c1, c2, c3, c4⟩⟩ := hrk
    simp only [Bool.and_eq_true, decide_eq_true_eq]
    rw [a2, c2]
    constructor
    · by_cases q : i < j1
      · exact absurd e.symm (a4 i q)
      · omega
    · by_cases q : j2 < i
      · exact absurd e.symm (c4 i q (by omega))
      · omega
  · intro r hm
    unfold noGap
    cases el : lk3 rs (r.n + t) with
    | none => rfl
    | some q =>
      obtain ⟨hq, hqn⟩ := lk3_mem el
      obtain ⟨i, hi, rfl⟩ := List.getElem_of_mem hm
      obtain ⟨j, hj, rfl⟩ := List.getElem_of_mem hq
      obtain ⟨e1, ⟨j1, a1, a2, a3, a4⟩, _⟩ := hrow i hi
      obtain ⟨e2, _, ⟨j2, c1, c2, c3, c4⟩⟩ := hrow j hj
      show (!decide (rs[i].f < rs[j].l)) = true
      rw [a2, c2]
      by_cases q : j1 < j2
      · refine absurd ?_ (hp j1 j2 q c1)
        omega
      · simp
        omega
section
variable {K : PySem.W.Frag} {σ : L2.St} {H H' : Hp} {Q : VK} {te : TE} {t : TS} {D : Ends} {d : Addr} {kvs : List (Key × V)}
/-! ### what a locked dict is walked for -/
theorem same_unlock {od : Obj} (hd : H d = some (.dK kvs)) (s : Same (upd H d (.frz od (.dK kvs))) H') : Same H (upd H' d (.dK kvs)) := fun b o e => by
  by_cases c : b = d
  · subst c
    rw [hd] at e
    cases e
    exact upd_same
  · rw [upd_ne c]
    exact s b o (by rw [upd_ne c]; exact e)
theorem lcKeys {n k : Nat} (hv : σ[n]? = some (some (.ref d))) (hd : H d = some (.dK kvs)) (hn : kvs.length ≤ 100000) (hw : ∀ x : V, wipe ((wipe σ [k]).set k (some x)) [k] = wipe σ [k]) (f : Nat → Bool)
    (he : ∀ (i : Nat) (od : Obj) (H' : Hp) (key : Key) (v : V), kvs[i]? = some (key, v) → Same (upd H d (.frz od (.dK kvs))) H' → ∀ Q' : VK, (∀ H'', Same H' H'' → Q' (.bl (f i)) H'') → te ((wipe σ [k]).set k (some (kV key))) H' Q')
    (q : ∀ p H', H p = none → Same H H' → H' p = some (.lst (((List.range kvs.length).map f).map V.bl)) → Q (.ref p) H') : tLockE (tLc (iKeys (tVar n)) (gName k) tYes te [k]) σ H Q := by
  refine ⟨d, .dK kvs, hd, trivial, fun od => ?_⟩
  refine wp_lc ⟨.ref d, hv, d, od, rfl, .inl ⟨kvs, upd_same, ?_⟩⟩
  have W : Walk (Itk d od kvs) kvs.length (fun H => H d = some (.frz od (.dK kvs))) (fun i H x H' => H' = H ∧ x = kV ((kvs.getD i (.inl 0, .non)).1)) :=
    (walk_keys (d := d) (o := od) (kvs := kvs)).mono (fun _ h => h) fun i H x H' hi _ y => by
      obtain ⟨y1, key, v, y2, y3⟩ := y
      refine ⟨y1, ?_⟩
      rw [List.getD_eq_getElem?_getD, y2, y3]
      rfl
  refine lcW (σi := fun i => (wipe σ [k]).set k (some (kV ((kvs.getD i (.inl 0, .non)).1)))) W (fun _ => true) (fun i => .bl (f i)) hn (fun H' s => s _ _ upd_same) (fun i H' k' z => z) (fun i => hw _) (fun i H' _ _ Q' z => z H' (Same.refl H')) (fun i H' hi _ s Q' hq => ?_) (fun p H' np s hp => ?_)
  · have e : kvs[i]? = some kvs[i] := List.getElem?_eq_getElem hi
    rw [List.getD_eq_getElem?_getD, e]
    exact he i od H' kvs[i].1 kvs[i].2 e s Q' hq
  · have npd : p ≠ d := fun z => by
      rw [z, upd_same] at np
      cases np
    rw [upd_ne npd] at np
    refine ⟨s _ _ upd_same, q p _ np (same_unlock hd s) ?_⟩
    rw [upd_ne npd, hp, List.filter_eq_self.mpr (fun _ _ => rfl), List.map_map]
    rfl
/-- a table made over a list of ints -/
theorem lcTab {zs : List Int} {a : Addr} {k : Nat} (ha : SqL K H a (zs.map V.int)) (hn : zs.length ≤ 100000) (hw : ∀ x : V, wipe ((wipe σ [k]).set k (some x)) [k] = wipe σ [k]) (P : Int → Int → Int → Prop) (hP : ∀ z ∈ zs, ∃ f l, P z f l)
    (he : ∀ z f l H', Same H H' → z ∈ zs → P z f l → ∀ Q' : VK, (∀ T, H' T = none → Q' (.ref T) (upd H' T (.tup [.int z, .int f, .int l]))) → te ((wipe σ [k]).set k (some (.int z))) H' Q')
    (q : ∀ p (rs : List R3) H', H p = none → Same H H' → H' p = some (.lst (refs3 rs)) → Rows H' rs → (∀ r ∈ rs, H r.ad = none) → (hl : rs.length = zs.length) → (∀ (i : Nat) (h : i < rs.length), rs[i].n = zs[i]'(by omega) ∧ P (zs[i]'(by omega)) rs[i].f rs[i].l) → Q (.ref p) H') : kLc (gName k) tYes te [k] σ Q (Itl K a) H := by
  intro p np
  refine lc_it (walkI (ns := zs)) (Qd := fun H' => Q (.ref p) H') (fun i H' => Same H H' ∧ ∃ rs : List R3, H' p = some (.lst (refs3 rs)) ∧ Rows H' rs ∧ (∀ r ∈ rs, H r.ad = none ∧ r.ad ≠ p) ∧ ∃ hl : rs.length = i, ∀ (j : Nat) (h : j < rs.length), ∃ hz : j < zs.length, rs[j].n = zs[j] ∧ P zs[j] rs[j].f rs[j].l)
    ⟨same_new (Same.refl H) np, [], upd_same, (fun r hr => by cases hr), (fun r hr => by cases hr), rfl, fun j h => absurd h (Nat.not_lt_zero _)⟩ (fun i H' _ w => w.1.seq ha) ?_ ?_
  · rintro i x H1 H2 hi ⟨s1, rs, h1, R, N, hl, h2⟩ ⟨rfl, rfl⟩
    refine ⟨hw _, ?_⟩
    show tYes _ _ _
    refine wp_tYes ?_
    rw [if_pos rfl]
    have hnth : nth zs i = zs[i] := nth_eq hi
    have hm : nth zs i ∈ zs := by rw [hnth]; exact List.getElem_mem hi
    obtain ⟨f, l, hp⟩ := hP _ hm
    refine he _ f l H2 s1 hm hp _ fun T nT => ?_
    have hpT : p ≠ T := ne_of_none h1 nT
    refine ⟨refs3 rs, at_new h1 nT, szl (by rw [refs3_length]; omega), ?_, rs ++ [⟨T, nth zs i, f, l⟩], ?_, ?_, ?_, ?_, ?_⟩
    · exact same_mut (same_new s1 nT) np
    · rw [upd_same]
      simp [refs3]
    · intro r hr
      rcases List.mem_append.mp hr with hr | hr
      · rw [upd_ne (N r hr).2]
        exact at_new (R r hr) nT
      · rw [List.mem_singleton] at hr
        subst hr
        rw [upd_ne (Ne.symm hpT)]
        exact upd_same
    · intro r hr
      rcases List.mem_append.mp hr with hr | hr
      · exact N r hr
      · rw [List.mem_singleton] at hr
        subst hr
        exact ⟨s1.free nT, Ne.symm hpT⟩
    · rw [List.length_append, hl]
      rfl
    · intro j hj
      rw [List.length_append] at hj
      by_cases c : j < rs.length
      · obtain ⟨z1, z2⟩ := h2 j c
        refine ⟨z1, ?_⟩
        rw [List.getElem_append_left c]
        exact z2
      · have e : j = rs.length := by
          simp at hj
          omega
        subst e
        have hz : rs.length < zs.length := by omega
        refine ⟨hz, ?_⟩
        rw [List.getElem_append_right (Nat.le_refl _)]
        simp only [Nat.sub_self, List.getElem_cons_zero]
        have e3 : nth zs i = zs[rs.length] := by
          rw [hnth]
          congr 1
          exact hl.symm
        rw [← e3]
        exact ⟨rfl, hp⟩
  · rintro H' ⟨s1, rs, h1, R, N, hl, h2⟩
    exact q p rs H' np s1 h1 R (fun r hr => (N r hr).1) hl fun i h => (h2 i h).2
/-- a for over a dict that changes nothing at all -/
theorem forKeys {n : Nat} {g : TG} (hv : σ[n]? = some (some (.ref d))) (hd : H d = some (.dK kvs)) (R : Nat → L2.St → Prop) (h0 : R 0 σ)
    (hs : ∀ (i : Nat) (od : Obj) σ' (key : Key) (v : V), kvs[i]? = some (key, v) → R i σ' → g (kV key) σ' (upd H d (.frz od (.dK kvs))) fun σ2 H2 => t
      { nx := fun σ3 H3 => R (i + 1) σ3 ∧ H3 = upd H d (.frz od (.dK kvs)), rt := fun v H' => H' d = some (.frz od (.dK kvs)) ∧ D.rt v (upd H' d (.dK kvs)), ct := fun σ3 H3 => R (i + 1) σ3 ∧ H3 = upd H d (.frz od (.dK kvs)), bk := fun σ' H' => H' d = some (.frz od (.dK kvs)) ∧ D.nx σ' (upd H' d (.dK kvs)) } σ2 H2)
    (hd2 : ∀ σ', R kvs.length σ' → D.nx σ' H) : tLock (tFor (iKeys (tVar n)) g t) D σ H := by
  refine ⟨d, .dK kvs, hd, trivial, fun od => ?_⟩
  refine wp_for ⟨.ref d, hv, d, od, rfl, .inl ⟨kvs, upd_same, ?_⟩⟩
  refine for_it (walk_keys (d := d) (o := od) (kvs := kvs)) (fun i σ' H' => R i σ' ∧ H' = upd H d (.frz od (.dK kvs))) ⟨h0, rfl⟩ (fun i σ' H' _ p => by rw [p.2]; exact upd_same) (fun i x σ' H' H2 hi p y => ?_) (fun σ' H' p => ?_)
  · obtain ⟨y1, key, v, y2, rfl⟩ := y
    obtain ⟨p1, p2⟩ := p
    subst y1
    subst p2
    exact hs i od σ' key v y2 p1
  · obtain ⟨p1, p2⟩ := p
    subst p2
    have e : upd (upd H d (.frz od (.dK kvs))) d (.dK kvs) = H := by
      rw [upd_upd]
      funext b
      by_cases c : b = d
      · subst c; rw [upd_same, hd]
      · rw [upd_ne c]
    refine ⟨upd_same, ?_⟩
    rw [e]
    exact hd2 σ' p1
theorem wp_altL {ta tb : TE} (q : ta σ H Q) : tAlt ta tb σ H Q := .inl q
theorem wp_altR {ta tb : TE} (q : tb σ H Q) : tAlt ta tb σ H Q := .inr q
end
end Bs

namespace Bs
open PySem L2
def sp_is_there (_ : PySem.W.Frag) (_ : Cs) : Sp := fun vs H Q _ => ∃ f m l : Int, vs = [.int f, .int m, .int l] ∧ Q (.bl (decide (IsThere f m l))) H
theorem call_is_there {K : PySem.W.Frag} {cs : Cs} {f m l : Int} {H : Hp} {Q : VK} {E : XK} (q : Q (.bl (decide (IsThere f m l))) H) : sp_is_there K cs [.int f, .int m, .int l] H Q E := ⟨f, m, l, rfl, q⟩
theorem len_is_there {K : PySem.W.Frag} {cs : Cs} {vs : List V} {H : Hp} {Q : VK} {E : XK} (h : sp_is_there K cs vs H Q E) : vs.length = 3 := by
  obtain ⟨_, _, _, rfl, _⟩ := h; rfl
def ExactShow (ns : List Int) (t f m : Int) : Prop := IsThere f m ns.length ∧ segS ns f m = t
instance (ns : List Int) (t f m : Int) : Decidable (ExactShow ns t f m) := by unfold ExactShow; infer_instance
def sp_Exact_shows (_ : PySem.W.Frag) (cs : Cs) : Sp := fun vs H Q _ => ∃ (x dx a : Addr) (f m t : Int) (ns : List Int), vs = [.ref x, .ref a, .int t] ∧ H x = some (.ins cs.Exact dx (fExact f m)) ∧ H a = some (.lst (ns.map V.int)) ∧ RetV H Q (.bl (decide (ExactShow ns t f m)))
theorem len_Exact_shows {K : PySem.W.Frag} {cs : Cs} {vs : List V} {H : Hp} {Q : VK} {E : XK} (h : sp_Exact_shows K cs vs H Q E) : vs.length = 3 := by
  obtain ⟨_, _, _, _, _, _, _, rfl, _⟩ := h; rfl
def sp_summed (_ : PySem.W.Frag) (_ : Cs) : Sp := fun vs H Q _ => ∃ (a : Addr) (ns : List Int), vs = [.ref a] ∧ H a = some (.lst (ns.map V.int)) ∧ ns.length ≤ 1000 ∧ RetI H Q (psums ns)
theorem len_summed {K : PySem.W.Frag} {cs : Cs} {vs : List V} {H : Hp} {Q : VK} {E : XK} (h : sp_summed K cs vs H Q E) : vs.length = 1 := by
  obtain ⟨_, _, rfl, _⟩ := h; rfl
def sp_Never_shows (_ : PySem.W.Frag) (cs : Cs) : Sp := fun vs H Q _ => ∃ (x dx tb a : Addr) (t : Int) (rs : List R3) (ns : List Int), vs = [.ref x, .ref a, .int t] ∧ H x = some (.ins cs.Never dx (fNever tb)) ∧ H tb = some (.lst (refs3 rs)) ∧ Rows H rs ∧ H a = some (.lst (ns.map V.int)) ∧
  ns.length ≤ 1000 ∧ rs.length ≤ 1000 ∧ RetV H Q (.bl (neverB ns t rs))
theorem len_Never_shows {K : PySem.W.Frag} {cs : Cs} {vs : List V} {H : Hp} {Q : VK} {E : XK} (h : sp_Never_shows K cs vs H Q E) : vs.length = 3 := by
  obtain ⟨_, _, _, _, _, _, _, rfl, _⟩ := h; rfl
theorem any_not_all {α : Type} (p : α → Bool) : ∀ l : List α, l.any p = !l.all fun a => !p a
  | [] => rfl
  | a :: r => by
    rw [List.any_cons, List.all_cons, any_not_all p r]
    cases p a <;> simp
theorem rising_list (rs : List R3) : ((List.range (rs.length - 1)).map fun i => decide ((rs.getD (i + 1) ⟨0, 0, 0, 0⟩).n ≤ (rs.getD i ⟨0, 0, 0, 0⟩).n)).any id = !rising rs := by
  unfold rising
  rw [List.any_map]
  exact any_not_all _ _
theorem never_not {ns : List Int} {t : Int} {rs : List R3} {i : Nat} (hi : i < ns.length + 1) (h : inTab ns rs i = false) : neverB ns t rs = false := by
  cases e : neverB ns t rs with
  | false => rfl
  | true =>
    unfold neverB at e
    rw [Bool.and_eq_true, Bool.and_eq_true, List.all_eq_true] at e
    have := e.2.1 i (List.mem_range.mpr hi)
    rw [h] at this
    cases this
theorem gap_list (t : Int) (rs : List R3) {n : Nat} (hn : n = rs.length) : (!((List.range n).map fun i => !noGap t rs (rs.getD i ⟨0, 0, 0, 0⟩)).any id) = rs.all (noGap t rs) := by
  subst hn
  have e : rs = (List.range rs.length).map fun i => rs.getD i ⟨0, 0, 0, 0⟩ := by
    apply List.ext_getElem
    · simp
    · intro i h1 h2
      simp [h1]
  rw [List.any_map, any_not_all, Bool.not_not]
  have e2 : rs.all (noGap t rs) = ((List.range rs.length).map fun i => rs.getD i ⟨0, 0, 0, 0⟩).all (noGap t rs) := by rw [← e]
  rw [e2, List.all_map]
  congr 1
  funext i
  simp [Function.comp]
theorem atI_refs {rs : List R3} {i : Nat} (hi : i < rs.length) {z : Int} (e : z = i) : atI (refs3 rs) z = some (.ref rs[i].ad) := at_of e (refs3_get hi)
def sp_l_sums (_ : PySem.W.Frag) (_ : Cs) : Sp := fun vs H Q _ => ∃ (a : Addr) (ns : List Int), vs = [.ref a] ∧ H a = some (.lst (ns.map V.int)) ∧ ns.length ≤ 1000 ∧ RetI H Q (psums ns)
theorem len_l_sums {K : PySem.W.Frag} {cs : Cs} {vs : List V} {H : Hp} {Q : VK} {E : XK} (h : sp_l_sums K cs vs H Q E) : vs.length = 1 := by
  obtain ⟨_, _, rfl, _⟩ := h; rfl
def sp_l_count (_ : PySem.W.Frag) (_ : Cs) : Sp := fun vs H Q _ => ∃ (a : Addr) (ns : List Int) (t : Int), vs = [.ref a, .int t] ∧ H a = some (.lst (ns.map V.int)) ∧ ns.length ≤ 1000 ∧ RetV H Q (.int (cntOf ns t))
theorem len_l_count {K : PySem.W.Frag} {cs : Cs} {vs : List V} {H : Hp} {Q : VK} {E : XK} (h : sp_l_count K cs vs H Q E) : vs.length = 2 := by
  obtain ⟨_, _, _, rfl, _⟩ := h; rfl
def sp_l_numbers (_ : PySem.W.Frag) (_ : Cs) : Sp := fun vs H Q _ => ∃ (a : Addr) (ns : List Int), vs = [.ref a] ∧ H a = some (.lst (ns.map V.int)) ∧ ns.length ≤ 1000 ∧ RetV H Q (.bl true)
theorem len_l_numbers {K : PySem.W.Frag} {cs : Cs} {vs : List V} {H : Hp} {Q : VK} {E : XK} (h : sp_l_numbers K cs vs H Q E) : vs.length = 1 := by
  obtain ⟨_, _, rfl, _⟩ := h; rfl
def sp_l_none_k04 (_ : PySem.W.Frag) (cs : Cs) : Sp := fun vs H Q _ => ∃ (tb a : Addr) (t : Int) (rs : List R3) (ns : List Int), vs = [.ref a, .int t, .ref tb] ∧ H tb = some (.lst (refs3 rs)) ∧ Rows H rs ∧ H a = some (.lst (ns.map V.int)) ∧
  ns.length ≤ 1000 ∧ rs.length ≤ 1000 ∧ RetV H Q (.bl (neverB ns t rs))
theorem len_l_none_k04 {K : PySem.W.Frag} {cs : Cs} {vs : List V} {H : Hp} {Q : VK} {E : XK} (h : sp_l_none_k04 K cs vs H Q E) : vs.length = 3 := by
  obtain ⟨_, _, _, _, _, rfl, _⟩ := h; rfl
structure IsK04 (K : PySem.W.Frag) (cs : Cs) : Prop where
  i : IsiC K cs.Exact
  j : IsiC K cs.Never
  k1 : PySem.W.kitOne K (.ref cs.Exact) (.ref cs.Answer) = some true
  k2 : PySem.W.kitOne K (.ref cs.Exact) (.ref cs.Exact) = some true
  k3 : PySem.W.kitOne K (.ref cs.Exact) (.ref cs.Never) = some false
  k4 : PySem.W.kitOne K (.ref cs.Exact) (.ref cs.Best) = some false
  k5 : PySem.W.kitOne K (.ref cs.Exact) (.ref cs.Around) = some false
  l1 : PySem.W.kitOne K (.ref cs.Never) (.ref cs.Answer) = some true
  l2 : PySem.W.kitOne K (.ref cs.Never) (.ref cs.Exact) = some false
  l3 : PySem.W.kitOne K (.ref cs.Never) (.ref cs.Never) = some true
  l4 : PySem.W.kitOne K (.ref cs.Never) (.ref cs.Best) = some false
  l5 : PySem.W.kitOne K (.ref cs.Never) (.ref cs.Around) = some false
def sp_l_right_k04 (_ : PySem.W.Frag) (cs : Cs) : Sp := fun vs H Q _ => ∃ (x dx a : Addr) (t : Int) (ns : List Int), vs = [.ref a, .int t, .ref x] ∧ H a = some (.lst (ns.map V.int)) ∧ ns.length ≤ 1000 ∧ RetV H Q (.bl true) ∧
  ((∃ f m, ExactShow ns t f m ∧ H x = some (.ins cs.Exact dx (fExact f m))) ∨ ∃ (tb : Addr) (rs : List R3), neverB ns t rs = true ∧ rs.length ≤ 1000 ∧ H x = some (.ins cs.Never dx (fNever tb)) ∧ H tb = some (.lst (refs3 rs)) ∧ Rows H rs)
theorem len_l_right_k04 {K : PySem.W.Frag} {cs : Cs} {vs : List V} {H : Hp} {Q : VK} {E : XK} (h : sp_l_right_k04 K cs vs H Q E) : vs.length = 3 := by
  obtain ⟨_, _, _, _, _, rfl, _⟩ := h; rfl
def sp_l_row (K : PySem.W.Frag) (_ : Cs) : Sp := fun vs H Q _ => ∃ (a : Addr) (ns : List Int), vs = [.ref a] ∧ SqL K H a (ns.map V.int) ∧ ns.length ≤ 1000 ∧ RetI H Q (lrow ns)
theorem len_l_row {K : PySem.W.Frag} {cs : Cs} {vs : List V} {H : Hp} {Q : VK} {E : XK} (h : sp_l_row K cs vs H Q E) : vs.length = 1 := by
  obtain ⟨_, _, rfl, _⟩ := h; rfl
def sp_Exact_init (_ : PySem.W.Frag) (cs : Cs) : Sp := fun vs H Q _ => ∃ (p dx : Addr) (f m : Int), vs = [.ref p, .int f, .int m] ∧ H p = some (.ins cs.Exact dx []) ∧
  ∀ H', (∀ b o, H b = some o → b ≠ p → H' b = some o) → H' p = some (.ins cs.Exact dx (fExact f m)) → Q .non H'
theorem len_Exact_init {K : PySem.W.Frag} {cs : Cs} {vs : List V} {H : Hp} {Q : VK} {E : XK} (h : sp_Exact_init K cs vs H Q E) : vs.length = 3 := by
  obtain ⟨_, _, _, _, rfl, _⟩ := h; rfl
theorem make_Exact {K : PySem.W.Frag} {cs : Cs} {H : Hp} {Q : VK} {E : XK} {f m : Int}
    (q : ∀ x dx H', H x = none → Same H H' → H' x = some (.ins cs.Exact dx (fExact f m)) → Q (.ref x) H') : kMake cs.Exact (sp_Exact_init K cs) [] E Q [.int f, .int m] H := by
  refine wp_kMake fun x dx nx nd ne => ?_
  refine ⟨x, dx, f, m, rfl, upd_same, fun H' keep hx => ⟨rfl, ?_⟩⟩
  exact q x dx H' nx (same_make nx nd keep) hx
def sp_Never_init (_ : PySem.W.Frag) (cs : Cs) : Sp := fun vs H Q _ => ∃ (p dx a : Addr) (xs : List V), vs = [.ref p, .ref a] ∧ H p = some (.ins cs.Never dx []) ∧ H a = some (.lst xs) ∧
  ∀ t H', H t = none → (∀ b o, H b = some o → b ≠ p → H' b = some o) → H' p = some (.ins cs.Never dx (fNever t)) → H' t = some (.lst xs) → Q .non H'
theorem len_Never_init {K : PySem.W.Frag} {cs : Cs} {vs : List V} {H : Hp} {Q : VK} {E : XK} (h : sp_Never_init K cs vs H Q E) : vs.length = 2 := by
  obtain ⟨_, _, _, _, rfl, _⟩ := h; rfl
theorem make_Never {K : PySem.W.Frag} {cs : Cs} {H : Hp} {Q : VK} {E : XK} {a : Addr} {xs : List V} (ha : H a = some (.lst xs))
    (q : ∀ x dx t H', H x = none → H t = none → Same H H' → H' x = some (.ins cs.Never dx (fNever t)) → H' t = some (.lst xs) → Q (.ref x) H') : kMake cs.Never (sp_Never_init K cs) [] E Q [.ref a] H := by
  refine wp_kMake fun x dx nx nd ne => ?_
  refine ⟨x, dx, a, xs, rfl, upd_same, at_new (at_new ha nd) (free_upd nx (Ne.symm ne)), fun t H' nt keep hx ht => ⟨rfl, ?_⟩⟩
  refine q x dx t H' nx ?_ (same_make nx nd keep) hx ht
  by_cases e : t = x
  · rw [e]; exact nx
  · by_cases e2 : t = dx
    · rw [e2]; exact nd
    · rw [upd_ne e, upd_ne e2] at nt
      exact nt
def sp_is_number (_ : PySem.W.Frag) (_ : Cs) : Sp := fun vs H Q _ => ∃ i : Int, vs = [.int i] ∧ Q (.bl true) H
theorem call_is_number {K : PySem.W.Frag} {cs : Cs} {i : Int} {H : Hp} {Q : VK} {E : XK} (q : Q (.bl true) H) : sp_is_number K cs [.int i] H Q E := ⟨i, rfl, q⟩
theorem len_is_number {K : PySem.W.Frag} {cs : Cs} {vs : List V} {H : Hp} {Q : VK} {E : XK} (h : sp_is_number K cs vs H Q E) : vs.length = 1 := by
  obtain ⟨_, rfl, _⟩ := h; rfl
def sp_asked_row (_ : PySem.W.Frag) (_ : Cs) : Sp := fun vs H Q _ => ∃ (a : Addr) (ns : List Int), vs = [.ref a] ∧ H a = some (.lst (ns.map V.int)) ∧ IsRow ns ∧ ns.length ≤ 1000 ∧ RetV H Q .non
theorem len_asked_row {K : PySem.W.Frag} {cs : Cs} {vs : List V} {H : Hp} {Q : VK} {E : XK} (h : sp_asked_row K cs vs H Q E) : vs.length = 1 := by
  obtain ⟨_, _, rfl, _⟩ := h; rfl
def sp_asked_total (_ : PySem.W.Frag) (_ : Cs) : Sp := fun vs H Q _ => ∃ i : Int, vs = [.int i] ∧ Q .non H
theorem len_asked_total {K : PySem.W.Frag} {cs : Cs} {vs : List V} {H : Hp} {Q : VK} {E : XK} (h : sp_asked_total K cs vs H Q E) : vs.length = 1 := by
  obtain ⟨_, rfl, _⟩ := h; rfl
def sp_exact (_ : PySem.W.Frag) (cs : Cs) : Sp := fun vs H Q _ => ∃ (a : Addr) (ns : List Int) (t : Int), vs = [.ref a, .int t] ∧ H a = some (.lst (ns.map V.int)) ∧ IsRow ns ∧ ns.length ≤ 900 ∧
  (∀ (x dx : Addr) (f m : Int) (H' : Hp), ExactShow ns t f m → 0 < cntOf ns t → H x = none → Same H H' → H' x = some (.ins cs.Exact dx (fExact f m)) → Q (.ref x) H') ∧
  (∀ (x dx tb : Addr) (rs : List R3) (H' : Hp), neverB ns t rs = true → cntOf ns t = 0 → rs ≠ [] → rs.length ≤ 901 → H x = none → H tb = none → Same H H' → H' x = some (.ins cs.Never dx (fNever tb)) → H' tb = some (.lst (refs3 rs)) → Rows H' rs → (∀ r ∈ rs, r.ad ≠ tb) → Q (.ref x) H')
theorem len_exact {K : PySem.W.Frag} {cs : Cs} {vs : List V} {H : Hp} {Q : VK} {E : XK} (h : sp_exact K cs vs H Q E) : vs.length = 2 := by
  obtain ⟨_, _, _, rfl, _⟩ := h; rfl
theorem kIfPut {σ : L2.St} {H : Hp} {t : TS} {D : Ends} {c : Bool} (h1 : c = true → t D σ H) (h2 : c = false → D.nx σ H) : kIfS t tNext D σ c H := wp_kIfS h1 h2
def sp_how_many (_ : PySem.W.Frag) (_ : Cs) : Sp := fun vs H Q _ => ∃ (a : Addr) (ns : List Int) (t : Int), vs = [.ref a, .int t] ∧ H a = some (.lst (ns.map V.int)) ∧ IsRow ns ∧ ns.length ≤ 1000 ∧ RetV H Q (.int (cntOf ns t))
theorem len_how_many {K : PySem.W.Frag} {cs : Cs} {vs : List V} {H : Hp} {Q : VK} {E : XK} (h : sp_how_many K cs vs H Q E) : vs.length = 2 := by
  obtain ⟨_, _, _, rfl, _⟩ := h; rfl
def sp_law_k04 (K : PySem.W.Frag) (_ : Cs) : Sp := spLaw K
theorem len_law_k04 {K : PySem.W.Frag} {cs : Cs} {vs : List V} {H : Hp} {Q : VK} {E : XK} (h : sp_law_k04 K cs vs H Q E) : vs.length = 1 := by
  obtain ⟨_, _, rfl, _⟩ := h; rfl
theorem never_not_snoc {ns : List Int} {t : Int} {rs : List R3} {r : R3} (hne : rs ≠ []) (h : r.n < (rs.getLast hne).n) : neverB ns t (rs ++ [r]) = false := by
  have hl : 0 < rs.length := List.length_pos_iff.mpr hne
  unfold neverB
  rw [not_rising (i := rs.length - 1) (by rw [List.length_append]; show rs.length - 1 + 1 < rs.length + 1; omega) (by
    rw [List.getElem_append_left (by omega), List.getElem_append_right (by omega)]
    rw [List.getLast_eq_getElem] at h
    simp only [List.getElem_singleton]
    omega)]
  rfl
theorem atI_last3 {rs : List R3} (hne : rs ≠ []) : atI (refs3 rs) (-1) = some (.ref (rs.getLast hne).ad) := by
  have hl : 0 < rs.length := List.length_pos_iff.mpr hne
  unfold atI ixN
  rw [if_neg (by omega), if_pos (by rw [refs3_length]; omega), refs3_length]
  show (refs3 rs)[(-1 + (rs.length : Int)).toNat]? = _
  rw [show (-1 + (rs.length : Int)).toNat = rs.length - 1 by omega, refs3_get (by omega), List.getLast_eq_getElem]
end Bs
namespace Bs
open PySem L2
abbrev N_is_there : List Str := ["first", "many", "length"]
def t_is_there (K : PySem.W.Frag) (cs : Cs) : TS :=
  (tRet (tAndV (tOp rGeI (tVar 0) (tC (.int 0))) (tAndV (tOp rGeI (tVar 1) (tC (.int 1))) (tOp rLeI (tOp rAddI (tVar 0) (tVar 1)) (tVar 2)))))
abbrev N_Exact_shows : List Str := ["self", "row", "total"]
def t_Exact_shows (K : PySem.W.Frag) (cs : Cs) : TS :=
  (tSeq (tIfS (tNot (tB (tCall (sp_is_there K cs) [] E0 (tCons (tFld K (tVar 0) "first") (tCons (tFld K (tVar 0) "many") (tCons (tCB (cLen K) (tCons (tVar 1) tNil)) tNil)))))) (tRet (tC (.bl false))) tNext)
  (tRet (tOp rEq (tCB (rSum K) (tCons (tSl (rSlL K) (tVar 1) (tPart (tFld K (tVar 0) "first")) (tPart (tOp rAddI (tFld K (tVar 0) "first") (tFld K (tVar 0) "many")))) tNil)) (tVar 2))))
abbrev N_summed : List Str := ["row", "found", "one"]
def t_summed (K : PySem.W.Frag) (cs : Cs) : TS :=
  (tSeq (tAsg (tLst (tCons (tC (.int 0)) tNil)) (gName 1))
  (tSeq (tFor (iList K (tVar 0)) (gName 2) (tDrop (tBM K "list" rAppend (tVar 1) (tCons (tOp rAddI (tOp (rIxL K) (tVar 1) (tUn rNegI (tC (.int 1)))) (tVar 2)) tNil))))
  (tRet (tVar 1))))
abbrev N_Never_shows : List Str := ["self", "row", "total", "firsts", "lasts", "number", "first", "last", "at"]
def t_Never_shows (K : PySem.W.Frag) (cs : Cs) : TS :=
  (tSeq (tIfS (tB (tCB (rAny K) (tCons (tLc (iRng1 (tCons (tOp rSubI (tCB (cLen K) (tCons (tFld K (tVar 0) "table") tNil)) (tC (.int 1))) tNil)) (gName 8) tYes (tOp rGeI (tOp (rIxT K) (tOp (rIxL K) (tFld K (tVar 0) "table") (tVar 8)) (tC (.int 0))) (tOp (rIxT K) (tOp (rIxL K) (tFld K (tVar 0) "table") (tOp rAddI (tVar 8) (tC (.int 1)))) (tC (.int 0)))) [8]) tNil))) (tRet (tC (.bl false))) tNext)
  (tSeq (tAsg tDNewK (gName 3))
  (tSeq (tAsg tDNewK (gName 4))
  (tSeq (tFor (iList K (tFld K (tVar 0) "table")) (gTup K 3 (gCons (gName 5) (gCons (gName 6) (gCons (gName 7) gNil)))) (tSeq (sDPut (tVar 3) (tVar 5) (tVar 6))
  (sDPut (tVar 4) (tVar 5) (tVar 7))))
  (tSeq (tFor (iEnum K (tCons (tCall (sp_summed K cs) [] E0 (tCons (tVar 1) tNil)) tNil)) (gTup K 2 (gCons (gName 8) (gCons (gName 5) gNil))) (tIfS (tOr (tB (tDNotIn (tVar 5) (tVar 3))) (tNot (tTest (tChain rLeI rLeI (tDGet (tVar 3) (tVar 5)) (tVar 8) (tDGet (tVar 4) (tVar 5)))))) (tRet (tC (.bl false))) tNext))
  (tRet (tNotV (tCB (rAny K) (tCons (tLockE (tLc (iKeys (tVar 3)) (gName 5) tYes (tAndV (tDIn (tOp rAddI (tVar 5) (tVar 2)) (tVar 4)) (tOp rLtI (tDGet (tVar 3) (tVar 5)) (tDGet (tVar 4) (tOp rAddI (tVar 5) (tVar 2))))) [5])) tNil)))))))))
abbrev N_l_sums : List Str := ["_law_row_here", "_law_found", "_law_one"]
def t_l_sums (K : PySem.W.Frag) (cs : Cs) : TS :=
  (tSeq (tAsg (tLst (tCons (tC (.int 0)) tNil)) (gName 1))
  (tSeq (tFor (iList K (tVar 0)) (gName 2) (tDrop (tBM K "list" rAppend (tVar 1) (tCons (tOp rAddI (tOp (rIxL K) (tVar 1) (tUn rNegI (tC (.int 1)))) (tVar 2)) tNil))))
  (tRet (tVar 1))))
abbrev N_l_count : List Str := ["_law_row_here", "_law_total", "_law_told", "_law_found", "_law_first", "_law_end"]
def t_l_count (K : PySem.W.Frag) (cs : Cs) : TS :=
  (tSeq (tAsg (tCall (sp_l_sums K cs) [] E0 (tCons (tVar 0) tNil)) (gName 2))
  (tSeq (tAsg (tC (.int 0)) (gName 3))
  (tSeq (tFor (iRng1 (tCons (tCB (cLen K) (tCons (tVar 0) tNil)) tNil)) (gName 4) (tAsg (tOp rAddI (tVar 3) (tCB (cLen K) (tCons (tLc (iRng2 (tCons (tOp rAddI (tVar 4) (tC (.int 1))) (tCons (tOp rAddI (tCB (cLen K) (tCons (tVar 0) tNil)) (tC (.int 1))) tNil))) (gName 5) (tTest (tOp rEq (tOp rSubI (tOp (rIxL K) (tVar 2) (tVar 5)) (tOp (rIxL K) (tVar 2) (tVar 4))) (tVar 1))) (tVar 5) [5]) tNil))) (gName 3)))
  (tRet (tVar 3)))))
abbrev N_l_numbers : List Str := ["_law_found", "_law_one"]
def t_l_numbers (K : PySem.W.Frag) (cs : Cs) : TS :=
  (tSeq (tIfS (tNot (tB (tCB (rIsi K) (tCons (tVar 0) (tCons (tC (.ty "list")) tNil))))) (tRet (tC (.bl false))) tNext)
  (tRet (tCB (rAll K) (tCons (tLc (iList K (tVar 0)) (gName 1) tYes (tAndV (tCB (rIsi K) (tCons (tVar 1) (tCons (tC (.ty "int")) tNil))) (tNotV (tCB (rIsi K) (tCons (tVar 1) (tCons (tC (.ty "bool")) tNil))))) [1]) tNil))))
abbrev N_l_none_k04 : List Str := ["_law_row_here", "_law_total", "_law_table", "_law_firsts", "_law_lasts", "_law_number", "_law_at", "_law_triple", "_law_told"]
def t_l_none_k04 (K : PySem.W.Frag) (cs : Cs) : TS :=
  (tSeq (tAsg tDNewK (gName 3))
  (tSeq (tAsg tDNewK (gName 4))
  (tSeq (tFor (iEnum K (tCons (tVar 2) tNil)) (gTup K 2 (gCons (gName 6) (gCons (gName 7) gNil))) (tSeq (tIfS (tOr (tNot (tB (tCB (rIsi K) (tCons (tVar 7) (tCons (tC (.ty "tuple")) tNil))))) (tOr (tTest (tOp rNe (tCB (cLen K) (tCons (tVar 7) tNil)) (tC (.int 3)))) (tNot (tB (tCall (sp_l_numbers K cs) [] E0 (tCons (tCB (cList K) (tCons (tVar 7) tNil)) tNil)))))) (tRet (tC (.bl false))) tNext)
  (tSeq (tIfS (tAnd (tTest (tOp rGtI (tVar 6) (tC (.int 0)))) (tTest (tOp rGeI (tOp (rIxT K) (tOp (rIxL K) (tVar 2) (tOp rSubI (tVar 6) (tC (.int 1)))) (tC (.int 0))) (tOp (rIxT K) (tVar 7) (tC (.int 0)))))) (tRet (tC (.bl false))) tNext)
  (tSeq (sDPut (tVar 3) (tOp (rIxT K) (tVar 7) (tC (.int 0))) (tOp (rIxT K) (tVar 7) (tC (.int 1))))
  (sDPut (tVar 4) (tOp (rIxT K) (tVar 7) (tC (.int 0))) (tOp (rIxT K) (tVar 7) (tC (.int 2))))))))
  (tSeq (tFor (iEnum K (tCons (tCall (sp_l_sums K cs) [] E0 (tCons (tVar 0) tNil)) tNil)) (gTup K 2 (gCons (gName 6) (gCons (gName 8) gNil))) (tIfS (tOr (tB (tDNotIn (tVar 8) (tVar 3))) (tNot (tTest (tChain rLeI rLeI (tDGet (tVar 3) (tVar 8)) (tVar 6) (tDGet (tVar 4) (tVar 8)))))) (tRet (tC (.bl false))) tNext))
  (tSeq (tLock (tFor (iKeys (tVar 3)) (gName 5) (tIfS (tAnd (tB (tDIn (tOp rAddI (tVar 5) (tVar 1)) (tVar 4))) (tTest (tOp rLtI (tDGet (tVar 3) (tVar 5)) (tDGet (tVar 4) (tOp rAddI (tVar 5) (tVar 1)))))) (tRet (tC (.bl false))) tNext)))
  (tRet (tC (.bl true))))))))
abbrev N_l_right_k04 : List Str := ["_law_row_here", "_law_total", "_law_found"]
def t_l_right_k04 (K : PySem.W.Frag) (cs : Cs) : TS :=
  (tSeq (tIfS (tOr (tNot (tB (tCB (rIsi K) (tCons (tVar 2) (tCons (tC (.ref cs.Answer)) tNil))))) (tTest (tOp rEq (tCB (rIsi K) (tCons (tVar 2) (tCons (tC (.ref cs.Exact)) tNil))) (tCB (rIsi K) (tCons (tVar 2) (tCons (tC (.ref cs.Never)) tNil)))))) (tRet (tC (.bl false))) tNext)
  (tSeq (tIfS (tOr (tB (tCB (rIsi K) (tCons (tVar 2) (tCons (tC (.ref cs.Best)) tNil)))) (tOr (tB (tCB (rIsi K) (tCons (tVar 2) (tCons (tC (.ref cs.Around)) tNil)))) (tTest (tOp rNotB (tAlt (tMeth cs.Exact "shows" (sp_Exact_shows K cs) [] E0 (tVar 2) (tCons (tVar 0) (tCons (tVar 1) tNil))) (tMeth cs.Never "shows" (sp_Never_shows K cs) [] E0 (tVar 2) (tCons (tVar 0) (tCons (tVar 1) tNil)))) (tC (.bl true)))))) (tRet (tC (.bl false))) tNext)
  (tSeq (tIfS (tB (tCB (rIsi K) (tCons (tVar 2) (tCons (tC (.ref cs.Never)) tNil)))) (tRet (tAndV (tCB (rIsi K) (tCons (tFld K (tVar 2) "table") (tCons (tC (.ty "list")) tNil))) (tCall (sp_l_none_k04 K cs) [] E0 (tCons (tVar 0) (tCons (tVar 1) (tCons (tFld K (tVar 2) "table") tNil)))))) tNext)
  (tSeq (tIfS (tOr (tNot (tB (tCall (sp_l_numbers K cs) [] E0 (tCons (tLst (tCons (tFld K (tVar 2) "first") (tCons (tFld K (tVar 2) "many") tNil))) tNil)))) (tOr (tTest (tOp rLtI (tFld K (tVar 2) "first") (tC (.int 0)))) (tTest (tOp rLtI (tFld K (tVar 2) "many") (tC (.int 1)))))) (tRet (tC (.bl false))) tNext)
  (tSeq (tIfS (tTest (tOp rGtI (tOp rAddI (tFld K (tVar 2) "first") (tFld K (tVar 2) "many")) (tCB (cLen K) (tCons (tVar 0) tNil)))) (tRet (tC (.bl false))) tNext)
  (tRet (tOp rEq (tCB (rSum K) (tCons (tSl (rSlL K) (tVar 0) (tPart (tFld K (tVar 2) "first")) (tPart (tOp rAddI (tFld K (tVar 2) "first") (tFld K (tVar 2) "many")))) tNil)) (tVar 1))))))))
abbrev N_l_row : List Str := ["_law_script", "_law_most", "_law_cell"]
def t_l_row (K : PySem.W.Frag) (cs : Cs) : TS :=
  (tSeq (tAsg (tOp (rIxT K) (tTup (tCons (tC (.int 3)) (tCons (tC (.int 10)) (tCons (tC (.int 10)) (tCons (tC (.int 1000000)) tNil))))) (tOp rModI (tCB (rSum K) (tCons (tVar 0) tNil)) (tC (.int 4)))) (gName 1))
  (tRet (tLc (iList K (tVar 0)) (gName 2) tYes (tOp rSubI (tOp rModI (tVar 2) (tOp rAddI (tOp rMulI (tC (.int 2)) (tVar 1)) (tC (.int 1)))) (tVar 1)) [2])))
abbrev N_Exact_init : List Str := ["self", "first", "many"]
def t_Exact_init (K : PySem.W.Frag) (cs : Cs) : TS :=
  (tSeq (sFld K (tVar 0) (tVar 1) "first")
  (sFld K (tVar 0) (tVar 2) "many"))
abbrev N_Never_init : List Str := ["self", "table"]
def t_Never_init (K : PySem.W.Frag) (cs : Cs) : TS :=
  (sFld K (tVar 0) (tCB (cList K) (tCons (tVar 1) tNil)) "table")
abbrev N_is_number : List Str := ["thing"]
def t_is_number (K : PySem.W.Frag) (cs : Cs) : TS :=
  (tRet (tAndV (tCB (rIsi K) (tCons (tVar 0) (tCons (tC (.ty "int")) tNil))) (tNotV (tCB (rIsi K) (tCons (tVar 0) (tCons (tC (.ty "bool")) tNil))))))
abbrev N_asked_row : List Str := ["row", "one"]
def t_asked_row (K : PySem.W.Frag) (cs : Cs) : TS :=
  (tIfS (tOr (tNot (tB (tCB (rIsi K) (tCons (tVar 0) (tCons (tC (.ty "list")) tNil))))) (tNot (tB (tCB (rAll K) (tCons (tLc (iList K (tVar 0)) (gName 1) tYes (tAndV (tCall (sp_is_number K cs) [] E0 (tCons (tVar 1) tNil)) (tChain rLeI rLeI (tUn rNegI (tC (.int 1000000))) (tVar 1) (tC (.int 1000000)))) [1]) tNil))))) tNever tNext)
abbrev N_asked_total : List Str := ["total"]
def t_asked_total (K : PySem.W.Frag) (cs : Cs) : TS :=
  (tIfS (tNot (tB (tCall (sp_is_number K cs) [] E0 (tCons (tVar 0) tNil)))) tNever tNext)
abbrev N_exact : List Str := ["row", "total", "firsts", "lasts", "at", "number"]
def t_exact (K : PySem.W.Frag) (cs : Cs) : TS :=
  (tSeq (tDrop (tCall (sp_asked_row K cs) [] E0 (tCons (tVar 0) tNil)))
  (tSeq (tDrop (tCall (sp_asked_total K cs) [] E0 (tCons (tVar 1) tNil)))
  (tSeq (tAsg tDNewK (gName 2))
  (tSeq (tAsg tDNewK (gName 3))
  (tSeq (tFor (iEnum K (tCons (tCall (sp_summed K cs) [] E0 (tCons (tVar 0) tNil)) tNil)) (gTup K 2 (gCons (gName 4) (gCons (gName 5) gNil))) (tSeq (tIfS (tB (tDIn (tOp rSubI (tVar 5) (tVar 1)) (tVar 2))) (tRet (tMake cs.Exact (sp_Exact_init K cs) [] E0 (tCons (tDGet (tVar 2) (tOp rSubI (tVar 5) (tVar 1))) (tCons (tOp rSubI (tVar 4) (tDGet (tVar 2) (tOp rSubI (tVar 5) (tVar 1)))) tNil)))) tNext)
  (tSeq (tIfS (tB (tDNotIn (tVar 5) (tVar 2))) (sDPut (tVar 2) (tVar 5) (tVar 4)) tNext)
  (sDPut (tVar 3) (tVar 5) (tVar 4)))))
  (tRet (tMake cs.Never (sp_Never_init K cs) [] E0 (tCons (tLc (iList K (tCB (cSortedD K) (tCons (tVar 2) tNil))) (gName 5) tYes (tTup (tCons (tVar 5) (tCons (tDGet (tVar 2) (tVar 5)) (tCons (tDGet (tVar 3) (tVar 5)) tNil)))) [5]) tNil))))))))
abbrev N_how_many : List Str := ["row", "total", "counts", "found", "number"]
def t_how_many (K : PySem.W.Frag) (cs : Cs) : TS :=
  (tSeq (tDrop (tCall (sp_asked_row K cs) [] E0 (tCons (tVar 0) tNil)))
  (tSeq (tDrop (tCall (sp_asked_total K cs) [] E0 (tCons (tVar 1) tNil)))
  (tSeq (tAsg tDNewK (gName 2))
  (tSeq (tAsg (tC (.int 0)) (gName 3))
  (tSeq (tFor (iList K (tCall (sp_summed K cs) [] E0 (tCons (tVar 0) tNil))) (gName 4) (tSeq (tAsg (tOp rAddI (tVar 3) (tDGet2 (tVar 2) (tOp rSubI (tVar 4) (tVar 1)) (tC (.int 0)))) (gName 3))
  (sDPut (tVar 2) (tVar 4) (tOp rAddI (tDGet2 (tVar 2) (tVar 4) (tC (.int 0))) (tC (.int 1))))))
  (tRet (tVar 3)))))))
abbrev N_law_k04 : List Str := ["_law_script", "_law_row_here", "_law_handed", "_law_mixed", "_law_first", "_law_some", "_law_total", "_law_found", "_law_count_here"]
def t_law_k04 (K : PySem.W.Frag) (cs : Cs) : TS :=
  (tSeq (tAsg (tCall (sp_l_row K cs) [] E0 (tCons (tVar 0) tNil)) (gName 1))
  (tSeq (tAsg (tCB (cList K) (tCons (tVar 1) tNil)) (gName 2))
  (tSeq (tAsg (tCB (rSum K) (tCons (tVar 0) tNil)) (gName 3))
  (tSeq (tAsg (tOp rModI (tOp rDivI (tVar 3) (tC (.int 4))) (tOp rAddI (tCB (cLen K) (tCons (tVar 1) tNil)) (tC (.int 1)))) (gName 4))
  (tSeq (tAsg (tCB (rSum K) (tCons (tSl (rSlL K) (tVar 1) (tPart (tVar 4)) (tPart (tOp rAddI (tOp rAddI (tVar 4) (tC (.int 1))) (tOp rModI (tOp rDivI (tVar 3) (tC (.int 28))) (tOp rAddI (tCB (cLen K) (tCons (tVar 1) tNil)) (tC (.int 1))))))) tNil)) (gName 5))
  (tSeq (tFor (iList K (tLst (tCons (tC (.int 0)) (tCons (tVar 5) (tCons (tOp rAddI (tVar 5) (tC (.int 1))) (tCons (tOp rSubI (tOp rModI (tVar 3) (tC (.int 41))) (tC (.int 20))) (tCons (tVar 5) tNil))))))) (gName 6) (tSeq (tAsg (tCall (sp_exact K cs) [] E0 (tCons (tVar 2) (tCons (tVar 6) tNil))) (gName 7))
  (tSeq (tIfS (tOr (tNot (tB (tCall (sp_l_right_k04 K cs) [] E0 (tCons (tVar 1) (tCons (tVar 6) (tCons (tVar 7) tNil)))))) (tTest (tOp (rNeD K) (tVar 2) (tVar 1)))) (tRet (tC (.bl false))) tNext)
  (tSeq (tAsg (tCall (sp_how_many K cs) [] E0 (tCons (tVar 2) (tCons (tVar 6) tNil))) (gName 8))
  (tSeq (tIfS (tOr (tNot (tB (tCall (sp_l_numbers K cs) [] E0 (tCons (tLst (tCons (tVar 8) tNil)) tNil)))) (tOr (tTest (tOp rNe (tVar 8) (tCall (sp_l_count K cs) [] E0 (tCons (tVar 1) (tCons (tVar 6) tNil))))) (tTest (tOp rNe (tOp rGtI (tVar 8) (tC (.int 0))) (tCB (rIsi K) (tCons (tVar 7) (tCons (tC (.ref cs.Exact)) tNil))))))) (tRet (tC (.bl false))) tNext)
  (tIfS (tB (tCB (rIsi K) (tCons (tVar 7) (tCons (tC (.ref cs.Never)) tNil)))) (tSeq (tFor (iList K (tLst (tCons (tRevL K (tVar 1)) (tCons (tOp rCat (tVar 1) (tLst (tCons (tC (.int 1)) tNil))) tNil)))) (gName 5) (tIfS (tTest (tOp rNe (tAlt (tMeth cs.Exact "shows" (sp_Exact_shows K cs) [] E0 (tVar 7) (tCons (tVar 5) (tCons (tVar 6) tNil))) (tMeth cs.Never "shows" (sp_Never_shows K cs) [] E0 (tVar 7) (tCons (tVar 5) (tCons (tVar 6) tNil)))) (tCall (sp_l_none_k04 K cs) [] E0 (tCons (tVar 5) (tCons (tVar 6) (tCons (tFld K (tVar 7) "table") tNil)))))) (tRet (tC (.bl false))) tNext))
  (tSeq (tDrop (tBM K "list" rAppend (tFld K (tVar 7) "table") (tCons (tTup (tCons (tOp rSubI (tOp (rIxT K) (tOp (rIxL K) (tFld K (tVar 7) "table") (tUn rNegI (tC (.int 1)))) (tC (.int 0))) (tC (.int 1))) (tCons (tC (.int 0)) (tCons (tC (.int 0)) tNil)))) tNil)))
  (tIfS (tTest (tOp rNotB (tAlt (tMeth cs.Exact "shows" (sp_Exact_shows K cs) [] E0 (tVar 7) (tCons (tVar 1) (tCons (tVar 6) tNil))) (tMeth cs.Never "shows" (sp_Never_shows K cs) [] E0 (tVar 7) (tCons (tVar 1) (tCons (tVar 6) tNil)))) (tC (.bl false)))) (tRet (tC (.bl false))) tNext))) tNext))))))
  (tRet (tOp (rEqD K) (tVar 2) (tVar 1)))))))))
end Bs
local macro_rules | `(tactic| walk_at "nn") => `(tactic| first
  | assumption
  | (with_reducible apply Bs.free_of'; (· assumption); (· walk_at "same")))
local macro_rules | `(tactic| walk_at "same") => `(tactic| first
  | assumption
  | exact L2.Same.refl _
  | (with_reducible apply Bs.same_new'; (· assumption); (· walk_at "same"))
  | (with_reducible apply Bs.same_mut'; (· walk_at "nn"); (· walk_at "same"))
  | (with_reducible apply Bs.same_r; (· assumption); (· walk_at "same")))
local macro_rules | `(tactic| walk_at "at") => `(tactic| first
  | assumption
  | with_reducible exact L2.upd_same
  | (with_reducible apply Bs.at_new'; (· assumption); (· walk_at "at"))
  | (with_reducible apply Bs.at_mut; (· walk_at "ne"); (· walk_at "at"))
  | (with_reducible apply Bs.at_same; (· assumption); (· walk_at "at")))
local macro_rules | `(tactic| walk_at "ne") => `(tactic| first
  | assumption
  | (apply Ne.symm; assumption)
  | (with_reducible apply Bs.ne_old; (· assumption); (· walk_at "at"))
  | (apply Ne.symm; (with_reducible apply Bs.ne_old; (· assumption); (· walk_at "at"))))
local macro_rules | `(tactic| walk_at "sq") => `(tactic| first
  | assumption
  | (with_reducible apply L2.SqL.of; walk_at "at")
  | (with_reducible apply Bs.sq_same; (· assumption); (· walk_at "same")))
local macro_rules | `(tactic| walk_at "tq") => `(tactic| first
  | assumption
  | (with_reducible apply L2.SqT.of; walk_at "at")
  | (with_reducible apply Bs.sqt_same; (· assumption); (· walk_at "same")))
local macro_rules | `(tactic| walk_at "rd") => `(tactic| first
  | assumption
  | (with_reducible apply L2.Rd.of; walk_at "at")
  | (apply Bs.rd_frz; assumption))
local macro_rules | `(tactic| walk_at "om") => `(tactic| first
  | assumption
  | omega
  | (simp only [List.length_map, List.length_append, List.length_cons, List.length_nil, List.length_reverse, List.length_range, Bs.psums_length, Bs.psumsTo_length, Bs.lrow_length] at *; omega))
local macro_rules | `(tactic| walk_at "cl") => `(tactic| first
  | assumption
  | exact Bs.OkBest.cl (by assumption)
  | exact Bs.OkSteep.cl (by assumption)
  | exact Bs.OkAround.cl (by assumption)
  | exact Bs.OkExact.cl (by assumption)
  | exact Bs.OkNever.cl (by assumption)
  | exact Bs.OkSeveral.cl (by assumption))
local macro_rules | `(tactic| walk_at "na") => `(tactic| first
  | assumption
  | exact Bs.OkBest.first (by assumption)
  | exact Bs.OkBest.many (by assumption)
  | exact Bs.OkBest.lows (by assumption)
  | exact Bs.OkSteep.first (by assumption)
  | exact Bs.OkSteep.many (by assumption)
  | exact Bs.OkSteep.lows (by assumption)
  | exact Bs.OkAround.first (by assumption)
  | exact Bs.OkAround.many (by assumption)
  | exact Bs.OkAround.lows (by assumption)
  | exact Bs.OkAround.tops (by assumption)
  | exact Bs.OkExact.first (by assumption)
  | exact Bs.OkExact.many (by assumption)
  | exact Bs.OkNever.table (by assumption)
  | exact Bs.OkSeveral.stretches (by assumption)
  | exact Bs.OkSeveral.price (by assumption)
  | exact Bs.OkSeveral.outs (by assumption)
  | exact Bs.OkSeveral.ins (by assumption))
local macro_rules | `(tactic| walk_at "lk") => `(tactic| first
  | with_reducible exact Bs.lk_Best_first
  | with_reducible exact Bs.lk_Best_many
  | with_reducible exact Bs.lk_Best_lows
  | with_reducible exact Bs.lk_Steep_first
  | with_reducible exact Bs.lk_Steep_many
  | with_reducible exact Bs.lk_Steep_lows
  | with_reducible exact Bs.lk_Around_first
  | with_reducible exact Bs.lk_Around_many
  | with_reducible exact Bs.lk_Around_lows
  | with_reducible exact Bs.lk_Around_tops
  | with_reducible exact Bs.lk_Exact_first
  | with_reducible exact Bs.lk_Exact_many
  | with_reducible exact Bs.lk_Never_table
  | with_reducible exact Bs.lk_Several_stretches
  | with_reducible exact Bs.lk_Several_price
  | with_reducible exact Bs.lk_Several_outs
  | with_reducible exact Bs.lk_Several_ins)
local macro_rules | `(tactic| walk_at "no") => `(tactic| first
  | with_reducible exact Bs.no_Best_shows
  | with_reducible exact Bs.no_Steep_shows
  | with_reducible exact Bs.no_Around_shows
  | with_reducible exact Bs.no_Exact_shows
  | with_reducible exact Bs.no_Never_shows
  | with_reducible exact Bs.no_Several_shows
  | with_reducible exact Bs.no_Several_bounds)
local macro_rules | `(tactic| walk_at "hc") => `(tactic| simp only [decide_eq_true_eq, decide_eq_false_iff_not, Bool.not_eq_true', Bool.not_eq_false', Bool.and_eq_true, Bool.or_eq_true, Bool.or_eq_false_iff, Bool.and_eq_false_iff, Bool.not_true, Bool.not_false, Int.not_lt, Int.not_le] at *)
local macro_rules | `(tactic| walk_at "stp") => `(tactic| first
  | (with_reducible apply Bs.wp_var; (· with_unfolding_all rfl))
  | with_reducible refine Bs.wp_c ?_
  | with_reducible refine Bs.wp_op ?_
  | with_reducible refine Bs.wp_cons ?_
  | with_reducible refine Bs.wp_nil ?_
  | with_reducible refine Bs.wp_seq ?_
  | with_reducible refine Bs.wp_asgN ?_
  | (with_reducible apply Bs.wp_kSet; (· (simp only [List.set_cons_succ, List.set_cons_zero]; exact rfl)))
  | with_reducible refine Bs.wp_nx ?_
  | with_reducible refine Bs.wp_next ?_
  | with_reducible refine Bs.wp_ret ?_
  | with_reducible refine Bs.wp_rt ?_
  | with_reducible refine Bs.wp_drop ?_
  | with_reducible refine Bs.wp_kDrop ?_
  | with_reducible refine Bs.wp_addI ?_
  | with_reducible refine Bs.wp_subI ?_
  | with_reducible refine Bs.wp_un ?_
  | with_reducible refine Bs.wp_negI ?_
  | with_reducible refine Bs.wp_ltI ?_
  | with_reducible refine Bs.wp_leI ?_
  | with_reducible refine Bs.wp_gtI ?_
  | with_reducible refine Bs.wp_geI ?_
  | with_reducible refine Bs.wp_eqI ?_
  | with_reducible refine Bs.wp_neI ?_
  | with_reducible refine Bs.wp_eqB ?_
  | with_reducible refine Bs.wp_neB ?_
  | with_reducible refine Bs.wp_isB ?_
  | with_reducible refine Bs.wp_ntB ?_
  | with_reducible refine Bs.wp_test ?_
  | with_reducible refine Bs.wp_tB ?_
  | with_reducible refine Bs.wp_kB ?_
  | with_reducible refine Bs.wp_not ?_
  | with_reducible refine Bs.kNot_t ?_
  | with_reducible refine Bs.kNot_f ?_
  | with_reducible refine Bs.wp_kNot ?_
  | with_reducible refine Bs.wp_and ?_
  | with_reducible refine Bs.wp_or ?_
  | with_reducible refine Bs.wp_andV ?_
  | with_reducible refine Bs.wp_orV ?_
  | with_reducible refine Bs.wp_notV ?_
  | with_reducible refine Bs.kNotV_t ?_
  | with_reducible refine Bs.kNotV_f ?_
  | with_reducible refine Bs.wp_kNotV ?_
  | with_reducible refine Bs.kOr_f ?_
  | with_reducible refine Bs.kOr_nt ?_
  | with_reducible refine Bs.kOr_t ?_
  | with_reducible refine Bs.kOr_nf ?_
  | with_reducible refine Bs.kAnd_t ?_
  | with_reducible refine Bs.kAnd_nf ?_
  | with_reducible refine Bs.kAnd_f ?_
  | with_reducible refine Bs.kAnd_nt ?_
  | with_reducible refine Bs.kOrV_f ?_
  | with_reducible refine Bs.kOrV_nt ?_
  | with_reducible refine Bs.kAndV_t ?_
  | with_reducible refine Bs.kAndV_nf ?_
  | with_reducible refine Bs.kAndV_f ?_
  | with_reducible refine Bs.kIfS_t ?_
  | with_reducible refine Bs.kIfS_nf ?_
  | with_reducible refine Bs.kIfS_f ?_
  | with_reducible refine Bs.kIfS_nt ?_
  | with_reducible refine Bs.wp_chain ?_
  | with_reducible refine Bs.wp_ifE ?_
  | with_reducible refine Bs.wp_ifS ?_
  | with_reducible refine Bs.wp_asg ?_
  | with_reducible refine Bs.wp_kAsg ?_
  | (with_reducible apply Bs.wp_modI; (· walk_at "om"))
  | (with_reducible apply Bs.wp_divI; (· walk_at "om"))
  | with_reducible refine Bs.wp_call ?_
  | with_reducible refine Bs.wp_kCall ?_
  | with_reducible refine Bs.wp_tCB ?_
  | with_reducible refine Bs.wp_kCB ?_
  | (with_reducible apply Bs.wp_lenI; (· walk_at "sq"))
  | (with_reducible apply Bs.wp_len; (· walk_at "sq"))
  | (with_reducible apply Bs.wp_lenT; (· walk_at "tq"))
  | (with_reducible apply Bs.wp_ixT0; (· walk_at "tq"))
  | (with_reducible apply Bs.wp_ixT1; (· walk_at "tq"))
  | (with_reducible apply Bs.wp_ixT2; (· walk_at "tq"))
  | (with_reducible apply Bs.wp_sum; (· walk_at "sq"))
  | (with_reducible apply Bs.wp_ixL; (· walk_at "sq"); (· walk_at "om"); (· walk_at "om"))
  | (with_reducible apply Bs.wp_ixN; (· walk_at "sq"); (· walk_at "om"); (· walk_at "om"))
  | (with_reducible apply Bs.wp_appI; (· walk_at "at"); (· walk_at "om"))
  | (with_reducible apply Bs.wp_app; (· walk_at "at"); (· walk_at "om"))
  | with_reducible refine Bs.wp_tBM ?_
  | (with_reducible apply Bs.wp_kBM; (· walk_at "at"))
  | with_reducible refine Bs.wp_tBM0 ?_
  | (with_reducible apply Bs.wp_kBM0; (· walk_at "at"))
  | with_reducible refine Bs.wp_lst ?_
  | with_reducible refine Bs.wp_tup ?_
  | with_reducible refine Bs.wp_sl ?_
  | with_reducible refine Bs.wp_part ?_
  | with_reducible refine Bs.wp_kPart ?_
  | with_reducible refine Bs.wp_noPart ?_
  | with_reducible refine Bs.wp_rev ?_
  | with_reducible refine Bs.wp_max2 ?_
  | with_reducible refine Bs.wp_min2 ?_
  | (with_reducible apply Bs.wp_eqL; (· walk_at "sq"); (· walk_at "sq"))
  | (with_reducible apply Bs.wp_neL; (· walk_at "sq"); (· walk_at "sq"))
  | with_reducible refine Bs.wp_for ?_
  | with_reducible refine Bs.wp_lc ?_
  | with_reducible refine Bs.wp_tYes ?_
  | with_reducible refine Bs.wp_iList ?_
  | (with_reducible apply Bs.wp_kIList; (· walk_at "sq"))
  | with_reducible refine Bs.wp_iRng1 ?_
  | (with_reducible apply Bs.wp_kRng1; (· walk_at "om"))
  | with_reducible refine Bs.wp_iRng2 ?_
  | (with_reducible apply Bs.wp_kRng2; (· walk_at "om"); (· walk_at "om"))
  | with_reducible refine Bs.wp_iRevR1 ?_
  | (with_reducible apply Bs.wp_kRev1; (· walk_at "om"))
  | with_reducible refine Bs.wp_iEnum ?_
  | (with_reducible apply Bs.wp_kEnum; (· walk_at "sq"))
  | (with_reducible apply Bs.wp_gName; (· (simp only [List.set_cons_succ, List.set_cons_zero]; exact rfl)))
  | (with_reducible apply Bs.wp_gTup; (· walk_at "tq"); (· with_unfolding_all rfl))
  | with_reducible refine Bs.wp_gCons ?_
  | with_reducible refine Bs.wp_gNil ?_
  | (with_reducible apply Bs.wp_all; (· walk_at "at"))
  | (with_reducible apply Bs.wp_any; (· walk_at "at"))
  | with_reducible refine Bs.isi_int ?_
  | with_reducible refine Bs.isi_int_bool ?_
  | with_reducible refine Bs.isi_bool ?_
  | (with_reducible apply Bs.isi_list; (· walk_at "at"))
  | (with_reducible apply Bs.isi_tup; (· walk_at "at"))
  | with_reducible refine Bs.wp_dget2 ?_
  | (with_reducible apply Bs.wp_kD2; (· walk_at "at"); (· intro Q1 hq; (repeat walk_at "stp"); exact hq); (· intro Q1 hq; (repeat walk_at "stp"); exact hq))
  | with_reducible refine Bs.wp_dput ?_
  | with_reducible refine Bs.wp_kPut ?_
  | (with_reducible apply Bs.wp_kPut2; (· walk_at "at"); (· walk_at "om"))
  | with_reducible refine Bs.wp_dnew ?_
  | with_reducible refine Bs.wp_din ?_
  | with_reducible refine Bs.wp_dnin ?_
  | (with_reducible apply Bs.wp_kIn; (· walk_at "rd"))
  | (with_reducible apply Bs.wp_kNin; (· walk_at "rd"))
  | with_reducible refine Bs.wp_dget ?_
  | (with_reducible apply Bs.wp_kGet; (· walk_at "rd"); (· assumption))
  | with_reducible refine Bs.wp_fld ?_
  | (with_reducible apply Bs.wp_kFld; (· walk_at "at"); (· walk_at "cl"); (· walk_at "na"); (· walk_at "lk"))
  | with_reducible refine Bs.wp_sfld ?_
  | with_reducible refine Bs.wp_meth ?_
  | (with_reducible apply Bs.wp_kMeth; (· walk_at "at"); (· walk_at "no"))
  | with_reducible refine Bs.wp_kCallM ?_
  | with_reducible refine Bs.wp_make ?_
  | (with_reducible apply Bs.wp_slI; (· walk_at "sq"); intro _ _)
  | (with_reducible apply Bs.wp_catI; (· walk_at "at"); (· walk_at "at"); (· walk_at "om"); intro _ _)
  | (with_reducible apply Bs.isi_own'; (· walk_at "at"); (· assumption); (· assumption))
  | with_reducible refine Bs.call_is_number ?_
  | with_reducible refine Bs.call_is_there ?_
  | with_reducible refine Bs.call_l_there ?_
  | (with_reducible apply Bs.wp_kAnd; (· intro hc Q1 hq; (try walk_at "hc"); (repeat walk_at "stp"); exact hq))
  | (with_reducible apply Bs.wp_kOr; (· intro hc Q1 hq; (try walk_at "hc"); (repeat walk_at "stp"); exact hq))
  | (with_reducible apply Bs.wp_kAndV; (· intro hc Q1 hq; (try walk_at "hc"); (repeat walk_at "stp"); exact hq))
  | (with_reducible apply Bs.wp_kOrV; (· intro hc Q1 hq; (try walk_at "hc"); (repeat walk_at "stp"); exact hq))
  | (with_reducible apply Bs.wp_kChain; (· intro hc Q1 hq; (try walk_at "hc"); (repeat walk_at "stp"); exact hq)))
local macro_rules | `(tactic| walk_at "go") => `(tactic| repeat walk_at "stp")
namespace Bs
open PySem L2
theorem pure_is_there {K : PySem.W.Frag} {cs : Cs} {vs : List V} {H : Hp} {Q : VK} {E : XK} (h : sp_is_there K cs vs H Q E) : t_is_there K cs { nx := fun _ H' => Q .non H', rt := Q } (start N_is_there vs) H := by
  obtain ⟨f, m, l, rfl, k⟩ := h
  unfold t_is_there
  show (_ : TS) _ [some (.int f), some (.int m), some (.int l)] H
  walk_at "go"
  have e : (decide (0 ≤ f) && (decide (1 ≤ m) && decide (f + m ≤ l))) = decide (IsThere f m l) := by
    apply Bool.eq_iff_iff.mpr
    rw [decide_eq_true_iff]
    simp only [Bool.and_eq_true, decide_eq_true_eq]
    exact Iff.rfl
  rw [e]
  exact k
theorem pure_Exact_shows {K : PySem.W.Frag} {cs : Cs} {vs : List V} {H : Hp} {Q : VK} {E : XK} (c : OkExact K cs.Exact) (h : sp_Exact_shows K cs vs H Q E) : t_Exact_shows K cs { nx := fun _ H' => Q .non H', rt := Q } (start N_Exact_shows vs) H := by
  obtain ⟨x, dx, a, f, m, t, ns, rfl, hx, ha, k⟩ := h
  unfold t_Exact_shows
  show (_ : TS) _ [some (.ref x), some (.ref a), some (.int t)] H
  walk_at "go"
  refine wp_kIfS (fun hc => ?_) (fun hc => ?_)
  · have e : decide (ExactShow ns t f m) = false := by
      refine decide_eq_false fun z => ?_
      simp only [Bool.not_eq_true', decide_eq_false_iff_not] at hc
      exact hc z.1
    rw [e] at k
    walk_at "go"
    exact k _ (Same.refl _)
  · simp only [Bool.not_eq_false', decide_eq_true_eq] at hc
    walk_at "go"
    have e : decide (ExactShow ns t f m) = decide ((cut ns (some f) (some (f + m))).sum = t) := decide_eq_decide.mpr ⟨fun z => z.2, fun z => ⟨hc, z⟩⟩
    rw [e] at k
    exact k _ (by walk_at "same")
theorem pure_summed {K : PySem.W.Frag} {cs : Cs} {vs : List V} {H : Hp} {Q : VK} {E : XK} (h : sp_summed K cs vs H Q E) : t_summed K cs { nx := fun _ H' => Q .non H', rt := Q } (start N_summed vs) H := by
  obtain ⟨a, ns, rfl, ha, hl, k⟩ := h
  unfold t_summed
  show (_ : TS) _ [some (.ref a), none, none] H
  walk_at "go"
  refine wp_lst1 fun p np => ?_
  walk_at "go"
  refine forI (ns := ns) (fun i σ H' => ∃ v, σ = [some (.ref a), some (.ref p), v] ∧ Same H H' ∧ H' p = some (.lst ((psumsTo ns i).map V.int))) ⟨_, rfl, by walk_at "same", by rw [psumsTo_zero]; exact upd_same⟩ (fun i σ H' _ h => ?_) (fun i σ H' hi h => ?_) (fun σ H' h => ?_)
  · obtain ⟨_, _, s, _⟩ := h
    walk_at "sq"
  · obtain ⟨_, rfl, s, hp⟩ := h
    walk_at "go"
    refine ⟨_, rfl, by walk_at "same", ?_⟩
    rw [psumsTo_succ hi]
    have e : nth (psumsTo ns i) (-1 + ((psumsTo ns i).length : Int)) = pre ns i := by
      rw [psumsTo_length, show (-1 + ((i + 1 : Nat) : Int)) = ((i : Nat) : Int) by omega, nth_psumsTo ns (Nat.le_refl _)]
    rw [e]
    exact upd_same
  · obtain ⟨_, rfl, s, hp⟩ := h
    walk_at "go"
    exact k p H' np s (by rw [hp, psumsTo_all])
theorem pure_Never_shows {K : PySem.W.Frag} {cs : Cs} {vs : List V} {H : Hp} {Q : VK} {E : XK} (c : OkNever K cs.Never) (h : sp_Never_shows K cs vs H Q E) : t_Never_shows K cs { nx := fun _ H' => Q .non H', rt := Q } (start N_Never_shows vs) H := by
  obtain ⟨x, dx, tb, a, t, rs, ns, rfl, hx, htb, hR, ha, hz, hz2, k⟩ := h
  have hrl := refs3_length rs
  have hps := psums_length ns
  unfold t_Never_shows
  show (_ : TS) _ [some (.ref x), some (.ref a), some (.int t), none, none, none, none, none, none] H
  walk_at "go"
  refine lcN (fun i => .bl (decide ((rs.getD (i + 1) ⟨0, 0, 0, 0⟩).n ≤ (rs.getD i ⟨0, 0, 0, 0⟩).n))) (by omega) (fun _ => rfl) (fun i H8 hi s8 Q1 hq => ?_) (fun p H8 np s8 hp => ?_)
  · show (_ : TE) [some (.ref x), some (.ref a), some (.int t), none, none, none, none, none, some (.int (0 + i))] H8 Q1
    have h1 : i < rs.length := by omega
    have h2 : i + 1 < rs.length := by omega
    have r1 := (hR.same s8).get h1
    have r2 := (hR.same s8).get h2
    rw [List.getD_eq_getElem?_getD, List.getD_eq_getElem?_getD, List.getElem?_eq_getElem h1, List.getElem?_eq_getElem h2] at hq
    walk_at "go"
    refine ⟨tb, _, _, _, rfl, rfl, SqL.of (by walk_at "at"), atI_refs h1 (by omega), ?_⟩
    walk_at "go"
    refine ⟨tb, _, _, _, rfl, rfl, SqL.of (by walk_at "at"), atI_refs h2 (by omega), ?_⟩
    walk_at "go"
    exact hq _ (Same.refl _)
  walk_at "go"
  refine wp_any (bs := (List.range (rs.length - 1)).map fun i => decide ((rs.getD (i + 1) ⟨0, 0, 0, 0⟩).n ≤ (rs.getD i ⟨0, 0, 0, 0⟩).n)) (by rw [hp, List.map_map, show (((refs3 rs).length : Int) - 1).toNat = rs.length - 1 by omega]; rfl) ?_
  rw [rising_list]
  walk_at "go"
  refine wp_kIfS (fun hc => ?_) (fun hc => ?_)
  · have e : neverB ns t rs = false := by
      unfold neverB
      simp only [Bool.not_eq_true'] at hc
      rw [hc]
      rfl
    rw [e] at k
    walk_at "go"
    exact k _ s8
  have hris : rising rs = true := by simpa using hc
  have hlt := fun i hi => rising_lt hris (i := i) hi
  walk_at "go"
  intro d1 nd1
  walk_at "go"
  intro d2 nd2
  have hd12 : d1 ≠ d2 := fun z => by rw [z] at nd2; rw [upd_same] at nd2; cases nd2
  have hdd1 : upd (upd H8 d1 (.dK [])) d2 (.dK []) d1 = some (.dK []) := at_new upd_same nd2
  have nd2' : H8 d2 = none := by rw [upd_ne (Ne.symm hd12)] at nd2; exact nd2
  walk_at "go"
  refine forR (xs := refs3 rs) (fun i σ H' => ∃ v5 v6 v7, σ = [some (.ref x), some (.ref a), some (.int t), some (.ref d1), some (.ref d2), v5, v6, v7, none] ∧ Same H8 H' ∧ H' d1 = some (.dK (fD (rs.take i))) ∧ H' d2 = some (.dK (lD (rs.take i))))
    ⟨_, _, _, rfl, by walk_at "same", hdd1, upd_same⟩ (fun i σ H9 _ h => ?_) (fun i v σ H9 hi h => ?_) (fun σ H9 h => ?_)
  · obtain ⟨_, _, _, _, s9, _⟩ := h
    walk_at "sq"
  · obtain ⟨_, _, _, rfl, s9, h1, h2⟩ := h
    have hi' : i < rs.length := by
      have := (List.getElem?_eq_some_iff.mp hi).1
      omega
    rw [refs3_get hi'] at hi
    cases hi
    have r9 : H9 rs[i].ad = some (.tup [.int rs[i].n, .int rs[i].f, .int rs[i].l]) := (hR.same (s8.trans s9)).get hi'
    have l1 := fD_length (rs.take i)
    have l2 := lD_length (rs.take i)
    rw [List.length_take] at l1 l2
    walk_at "go"
    refine ⟨_, _, _, rfl, ?_, ?_, ?_⟩
    · walk_at "same"
    · rw [upd_ne hd12, upd_same, fD_put hlt hi']
    · rw [upd_same, lD_put hlt hi']
  · obtain ⟨_, _, _, rfl, s9, h1, h2⟩ := h
    rw [hrl, List.take_length] at h1 h2
    have l1 := fD_length rs
    walk_at "go"
    refine ⟨a, ns, rfl, by walk_at "at", hz, fun p2 H10 np2 s10 hp2 => ?_⟩
    walk_at "go"
    have h1' : H10 d1 = some (.dK (fD rs)) := by walk_at "at"
    have h2' : H10 d2 = some (.dK (lD rs)) := by walk_at "at"
    refine forES (ns := psums ns) (by walk_at "sq") (fun i σ => ∃ v5 v6 v7 v8, σ = [some (.ref x), some (.ref a), some (.int t), some (.ref d1), some (.ref d2), v5, v6, v7, v8] ∧ ∀ j : Nat, j < i → inTab ns rs j = true) ⟨_, _, _, _, rfl, fun j hj => by omega⟩ (fun i σ H11 T hi h s11 nT => ?_) (fun σ H11 h s11 => ?_)
    · obtain ⟨_, _, _, _, rfl, hA⟩ := h
      have q1 : upd H11 T (.tup [.int i, .int (nth (psums ns) i)]) d1 = some (.dK (fD rs)) := by walk_at "at"
      have q2 : upd H11 T (.tup [.int i, .int (nth (psums ns) i)]) d2 = some (.dK (lD rs)) := by walk_at "at"
      rcases hlk : lk3 rs (nth (psums ns) i) with _ | r
      · have e1 : valV (fD rs) (.inl (nth (psums ns) i)) = none := by rw [valV_fD, hlk]; rfl
        walk_at "go"
        rw [e1]
        simp only [Option.isSome_none, Bool.not_false]
        walk_at "go"
        have e : neverB ns t rs = false := never_not (i := i) (by omega) (by unfold inTab; rw [hlk])
        rw [e] at k
        exact k _ (by walk_at "same")
      · have e1 : valV (fD rs) (.inl (nth (psums ns) i)) = some (.int r.f) := by rw [valV_fD, hlk]; rfl
        have e2 : valV (lD rs) (.inl (nth (psums ns) i)) = some (.int r.l) := by rw [valV_lD, hlk]; rfl
        have eT : inTab ns rs i = (decide (r.f ≤ i) && decide ((i : Int) ≤ r.l)) := by unfold inTab; rw [hlk]
        walk_at "go"
        rw [e1]
        simp only [Option.isSome_some, Bool.not_true, Bool.false_or]
        rw [← eT]
        refine wp_kIfS (fun hd => ?_) (fun hd => ?_)
        · have e : neverB ns t rs = false := never_not (i := i) (by omega) (by simpa using hd)
          rw [e] at k
          walk_at "go"
          exact k _ (by walk_at "same")
        · walk_at "go"
          refine ⟨⟨_, _, _, _, rfl, fun j hj => ?_⟩, by walk_at "same"⟩
          by_cases c : j = i
          · subst c; simpa using hd
          · exact hA j (by omega)
    · obtain ⟨v5, v6, v7, v8, rfl, hA⟩ := h
      walk_at "go"
      refine lcKeys (by with_unfolding_all rfl) (kvs := fD rs) (by walk_at "at") (by omega) (fun _ => rfl) (fun i => !noGap t rs (rs.getD i ⟨0, 0, 0, 0⟩)) (fun i od H12 key v hi s12 Q1 hq => ?_) (fun p3 H12 np3 s12 hp3 => ?_)
      · have hi' : i < rs.length := by
          have := (List.getElem?_eq_some_iff.mp hi).1
          omega
        have ei : (fD rs)[i]? = some (Sum.inl rs[i].n, V.int rs[i].f) := by simp [fD, hi']
        rw [ei] at hi
        cases hi
        show (_ : TE) [some (.ref x), some (.ref a), some (.int t), some (.ref d1), some (.ref d2), some (.int rs[i].n), v6, v7, v8] H12 Q1
        have f1 : H12 d1 = some (.frz od (.dK (fD rs))) := s12 _ _ upd_same
        have f2 : H12 d2 = some (.dK (lD rs)) := by
          refine s12 _ _ ?_
          rw [upd_ne (Ne.symm hd12)]
          walk_at "at"
        have eg : rs.getD i ⟨0, 0, 0, 0⟩ = rs[i] := by rw [List.getD_eq_getElem?_getD, List.getElem?_eq_getElem hi']; rfl
        rw [eg] at hq
        have e0 : valV (fD rs) (.inl rs[i].n) = some (.int rs[i].f) := by rw [valV_fD, lk3_at hris hi']; rfl
        rcases hlk : lk3 rs (rs[i].n + t) with _ | r
        · have e1 : valV (lD rs) (.inl (rs[i].n + t)) = none := by rw [valV_lD, hlk]; rfl
          have eT : noGap t rs rs[i] = true := by unfold noGap; rw [hlk]
          rw [eT] at hq
          walk_at "go"
          rw [e1]
          simp only [Option.isSome_none]
          walk_at "go"
          exact hq _ (Same.refl _)
        · have e1 : valV (lD rs) (.inl (rs[i].n + t)) = some (.int r.l) := by rw [valV_lD, hlk]; rfl
          have eT : noGap t rs rs[i] = !decide (rs[i].f < r.l) := by unfold noGap; rw [hlk]
          rw [eT, Bool.not_not] at hq
          walk_at "go"
          rw [e1]
          simp only [Option.isSome_some]
          walk_at "go"
          exact hq _ (Same.refl _)
      · walk_at "go"
        have e : (!((List.range (fD rs).length).map fun i => !noGap t rs (rs.getD i ⟨0, 0, 0, 0⟩)).any id) = neverB ns t rs := by
          unfold neverB
          rw [hris, Bool.true_and]
          have e1 : (List.range (ns.length + 1)).all (inTab ns rs) = true := by
            rw [List.all_eq_true]
            intro j hj
            rw [List.mem_range] at hj
            exact hA j (by omega)
          rw [e1, Bool.true_and]
          exact gap_list t rs l1
        rw [e]
        exact k _ (by walk_at "same")
theorem pure_l_sums {K : PySem.W.Frag} {cs : Cs} {vs : List V} {H : Hp} {Q : VK} {E : XK} (h : sp_l_sums K cs vs H Q E) : t_l_sums K cs { nx := fun _ H' => Q .non H', rt := Q } (start N_l_sums vs) H := by
  obtain ⟨a, ns, rfl, ha, hl, k⟩ := h
  unfold t_l_sums
  show (_ : TS) _ [some (.ref a), none, none] H
  walk_at "go"
  refine wp_lst1 fun p np => ?_
  walk_at "go"
  refine forI (ns := ns) (fun i σ H' => ∃ v, σ = [some (.ref a), some (.ref p), v] ∧ Same H H' ∧ H' p = some (.lst ((psumsTo ns i).map V.int))) ⟨_, rfl, by walk_at "same", by rw [psumsTo_zero]; exact upd_same⟩ (fun i σ H' _ h => ?_) (fun i σ H' hi h => ?_) (fun σ H' h => ?_)
  · obtain ⟨_, _, s, _⟩ := h
    walk_at "sq"
  · obtain ⟨_, rfl, s, hp⟩ := h
    walk_at "go"
    refine ⟨_, rfl, by walk_at "same", ?_⟩
    rw [psumsTo_succ hi]
    have e : nth (psumsTo ns i) (-1 + ((psumsTo ns i).length : Int)) = pre ns i := by
      rw [psumsTo_length, show (-1 + ((i + 1 : Nat) : Int)) = ((i : Nat) : Int) by omega, nth_psumsTo ns (Nat.le_refl _)]
    rw [e]
    exact upd_same
  · obtain ⟨_, rfl, s, hp⟩ := h
    walk_at "go"
    exact k p H' np s (by rw [hp, psumsTo_all])
theorem pure_l_count {K : PySem.W.Frag} {cs : Cs} {vs : List V} {H : Hp} {Q : VK} {E : XK} (h : sp_l_count K cs vs H Q E) : t_l_count K cs { nx := fun _ H' => Q .non H', rt := Q } (start N_l_count vs) H := by
  obtain ⟨a, ns, t, rfl, ha, hz, k⟩ := h
  have hps := psums_length ns
  unfold t_l_count
  show (_ : TS) _ [some (.ref a), some (.int t), none, none, none, none] H
  walk_at "go"
  refine ⟨a, ns, rfl, by walk_at "at", hz, fun p H1 np s1 hp => ?_⟩
  have ha1 : H1 a = some (.lst (ns.map V.int)) := by walk_at "at"
  walk_at "go"
  refine forNS (fun i σ => ∃ v4, σ = [some (.ref a), some (.int t), some (.ref p), some (.int (cntOf ns t - pairs t ((psums ns).drop i))), v4, none]) ⟨none, by simp [cntOf]⟩ (fun i σ H2 hi h s2 => ?_) (fun σ H2 h s2 => ?_)
  · obtain ⟨v4, rfl⟩ := h
    have hi' : i < ns.length := by omega
    rw [Int.zero_add]
    walk_at "go"
    refine lcW (σi := fun j => [some (.ref a), some (.int t), some (.ref p), some (.int (cntOf ns t - pairs t ((psums ns).drop i))), some (.int i), some (.int ((i : Int) + 1 + j))]) (walk_range (lo := (i : Int) + 1)) (fun j => decide (nth (psums ns) ((i : Int) + 1 + j) - nth (psums ns) i = t)) (fun j => .int ((i : Int) + 1 + j)) (by omega) (fun _ _ => trivial) (fun j H' k' z => z) (fun j => rfl) (fun j H' hj s Q1 hq => ?_) (fun j H' hj _ s Q1 hq => ?_) (fun q H' nq s hq => ?_)
    · walk_at "go"
      exact hq _ (Same.refl _)
    · walk_at "go"
      exact hq _ (Same.refl _)
    · walk_at "go"
      refine ⟨⟨some (.int i), ?_⟩, by walk_at "same"⟩
      have e := pairs_drop t (l := psums ns) (a := i) (by omega)
      rw [count_drop] at e
      have e2 : ((List.range ((psums ns).length - (i + 1))).filter fun j : Nat => decide (nth (psums ns) (((i + 1 : Nat) : Int) + j) = nth (psums ns) i + t)).length = (((List.range (((ns.length : Int) + 1 - ((i : Int) + 1)).toNat)).filter fun j : Nat => decide (nth (psums ns) ((i : Int) + 1 + j) - nth (psums ns) i = t)).map fun j : Nat => V.int ((i : Int) + 1 + j)).length := by
        rw [List.length_map, show ((ns.length : Int) + 1 - ((i : Int) + 1)).toNat = (psums ns).length - (i + 1) by omega]
        congr 1
        apply List.filter_congr
        intro j _
        apply decide_eq_decide.mpr
        rw [show ((i + 1 : Nat) : Int) + (j : Int) = (i : Int) + 1 + j by omega]
        omega
      rw [← e2]
      congr 4
      congr 2
      omega
  · obtain ⟨v4, rfl⟩ := h
    walk_at "go"
    have e : pairs t ((psums ns).drop ((ns.length : Int).toNat)) = 0 := by
      rw [Int.toNat_natCast, pairs_drop t (by omega), List.drop_eq_nil_of_le (by omega)]
      rfl
    rw [e, Int.sub_zero]
    exact k _ (by walk_at "same")
theorem pure_l_numbers {K : PySem.W.Frag} {cs : Cs} {vs : List V} {H : Hp} {Q : VK} {E : XK} (h : sp_l_numbers K cs vs H Q E) : t_l_numbers K cs { nx := fun _ H' => Q .non H', rt := Q } (start N_l_numbers vs) H := by
  obtain ⟨a, ns, rfl, ha, hl, k⟩ := h
  unfold t_l_numbers
  show (_ : TS) _ [some (.ref a), none] H
  walk_at "go"
  refine lcI_bl (ns := ns) (fun _ => true) (by walk_at "sq") (by omega) (fun _ => rfl) (fun i H1 hi s1 Q' hq => ?_) (fun p H1 np s1 hp => ?_)
  · show (_ : TE) [some (.ref a), some (.int (nth ns i))] H1 Q'
    walk_at "go"
    exact hq _ (Same.refl _)
  · walk_at "go"
    have e : (List.map (fun _ => true) ns).all id = true := by simp
    rw [e]
    exact k _ s1
theorem pure_l_none_k04 {K : PySem.W.Frag} {cs : Cs} {vs : List V} {H : Hp} {Q : VK} {E : XK} (h : sp_l_none_k04 K cs vs H Q E) : t_l_none_k04 K cs { nx := fun _ H' => Q .non H', rt := Q } (start N_l_none_k04 vs) H := by
  obtain ⟨tb, a, t, rs, ns, rfl, htb, hR, ha, hz, hz2, k⟩ := h
  have hrl := refs3_length rs
  have hps := psums_length ns
  unfold t_l_none_k04
  show (_ : TS) _ [some (.ref a), some (.int t), some (.ref tb), none, none, none, none, none, none] H
  walk_at "go"
  intro d1 nd1
  walk_at "go"
  intro d2 nd2
  have hd12 : d1 ≠ d2 := fun z => by rw [z] at nd2; rw [upd_same] at nd2; cases nd2
  have hdd1 : upd (upd H d1 (.dK [])) d2 (.dK []) d1 = some (.dK []) := at_new upd_same nd2
  have nd2' : H d2 = none := by rw [upd_ne (Ne.symm hd12)] at nd2; exact nd2
  walk_at "go"
  refine forER (xs := refs3 rs) (fun i σ H' => ∃ v6 v7, σ = [some (.ref a), some (.int t), some (.ref tb), some (.ref d1), some (.ref d2), none, v6, v7, none] ∧ Same H H' ∧ H' d1 = some (.dK (fD (rs.take i))) ∧ H' d2 = some (.dK (lD (rs.take i))) ∧ ∀ j : Nat, (hj : j + 1 < rs.length) → j + 1 < i → rs[j].n < rs[j + 1].n)
    ⟨_, _, rfl, by walk_at "same", hdd1, upd_same, fun j _ h => by omega⟩ (fun i σ H9 _ h => ?_) (fun i v σ H9 T hi h nT => ?_) (fun σ H9 h => ?_)
  · obtain ⟨_, _, _, s9, _⟩ := h
    walk_at "sq"
  · obtain ⟨_, _, rfl, s9, h1, h2, hlt⟩ := h
    have hi' : i < rs.length := by
      have := (List.getElem?_eq_some_iff.mp hi).1
      omega
    rw [refs3_get hi'] at hi
    cases hi
    have r9 : H9 rs[i].ad = some (.tup [.int rs[i].n, .int rs[i].f, .int rs[i].l]) := (hR.same s9).get hi'
    have r0 : H rs[i].ad = some (.tup [.int rs[i].n, .int rs[i].f, .int rs[i].l]) := hR.get hi'
    have l1 := fD_length (rs.take i)
    have l2 := lD_length (rs.take i)
    rw [List.length_take] at l1 l2
    have hTd1 : d1 ≠ T := ne_of_none h1 nT
    have hTd2 : d2 ≠ T := ne_of_none h2 nT
    walk_at "go"
    simp only [List.length_cons, List.length_nil]
    walk_at "go"
    have e3 : (!decide (((0 + 1 + 1 + 1 : Nat) : Int) = 3)) = false := by decide
    rw [e3]
    walk_at "go"
    refine wp_listT (SqT.of (by walk_at "at")) fun q nq => ?_
    walk_at "go"
    refine ⟨q, [rs[i].n, rs[i].f, rs[i].l], rfl, (by exact upd_same), (by show 3 ≤ 1000; decide), fun H10 s10 => ?_⟩
    walk_at "go"
    have r10 : H10 rs[i].ad = some (.tup [.int rs[i].n, .int rs[i].f, .int rs[i].l]) := by walk_at "at"
    have g1 : H10 d1 = some (.dK (fD (rs.take i))) := by walk_at "at"
    have g2 : H10 d2 = some (.dK (lD (rs.take i))) := by walk_at "at"
    refine wp_kAnd (d := decide (0 < i) && decide (rs[i].n ≤ (rs.getD (i - 1) ⟨0, 0, 0, 0⟩).n)) (fun hc Q1 hq => ?_) ?_
    · simp only [decide_eq_true_eq] at hc
      have hm : i - 1 < rs.length := by omega
      have r11 : H10 rs[i - 1].ad = some (.tup [.int rs[i - 1].n, .int rs[i - 1].f, .int rs[i - 1].l]) := by
        have : H9 rs[i - 1].ad = some (.tup [.int rs[i - 1].n, .int rs[i - 1].f, .int rs[i - 1].l]) := (hR.same s9).get hm
        walk_at "at"
      rw [List.getD_eq_getElem?_getD, List.getElem?_eq_getElem hm, decide_eq_true (show 0 < i by omega), Bool.true_and] at hq
      walk_at "go"
      refine ⟨tb, _, _, _, rfl, rfl, SqL.of (by walk_at "at"), atI_refs hm (by omega), ?_⟩
      walk_at "go"
      exact hq
    refine wp_kIfS (fun hc => ?_) (fun hc => ?_)
    · have hc' : 0 < i ∧ rs[i].n ≤ (rs.getD (i - 1) ⟨0, 0, 0, 0⟩).n := by
        simp only [Bool.and_eq_true, decide_eq_true_eq] at hc
        exact hc.2
      obtain ⟨c1, c2⟩ := hc'
      have hm : i - 1 < rs.length := by omega
      rw [List.getD_eq_getElem?_getD, List.getElem?_eq_getElem hm] at c2
      have e : neverB ns t rs = false := by
        unfold neverB
        rw [not_rising (i := i - 1) (by omega) (by
          have : rs[i - 1 + 1]'(by omega) = rs[i] := by congr 1; omega
          rw [this]
          simp only [Option.getD_some] at c2
          omega)]
        rfl
      rw [e] at k
      walk_at "go"
      exact k _ (by walk_at "same")
    · have hlt' : ∀ j : Nat, (hj : j + 1 < rs.length) → j < i → rs[j].n < rs[j + 1].n := by
        intro j hj hji
        by_cases q : j + 1 < i
        · exact hlt j hj q
        · have e : j + 1 = i := by omega
          have c : (decide (0 < (i : Int)) && (decide (0 < i) && decide (rs[i].n ≤ (rs.getD (i - 1) ⟨0, 0, 0, 0⟩).n))) = false := hc
          have hm : i - 1 < rs.length := by omega
          rw [decide_eq_true (show 0 < (i : Int) by omega), decide_eq_true (show 0 < i by omega), Bool.true_and, Bool.true_and, List.getD_eq_getElem?_getD, List.getElem?_eq_getElem hm, decide_eq_false_iff_not] at c
          subst e
          simp only [Option.getD_some, Nat.add_sub_cancel] at c
          omega
      obtain ⟨p1, p2⟩ := put_take hlt' hi'
      walk_at "go"
      refine ⟨_, _, rfl, by walk_at "same", ?_, ?_, fun j hj h => hlt' j hj (by omega)⟩
      · rw [upd_ne hd12, upd_same, p1]
      · rw [upd_same, p2]
  · obtain ⟨_, _, rfl, s9, h1, h2, hlt⟩ := h
    rw [hrl, List.take_length] at h1 h2
    have hris : rising rs = true := rising_of fun i hi => hlt i hi (by omega)
    have l1 := fD_length rs
    walk_at "go"
    refine ⟨a, ns, rfl, by walk_at "at", hz, fun p2 H10 np2 s10 hp2 => ?_⟩
    walk_at "go"
    have h1' : H10 d1 = some (.dK (fD rs)) := by walk_at "at"
    have h2' : H10 d2 = some (.dK (lD rs)) := by walk_at "at"
    refine forES (ns := psums ns) (by walk_at "sq") (fun i σ => ∃ v6 v7 v8, σ = [some (.ref a), some (.int t), some (.ref tb), some (.ref d1), some (.ref d2), none, v6, v7, v8] ∧ ∀ j : Nat, j < i → inTab ns rs j = true) ⟨_, _, _, rfl, fun j hj => by omega⟩ (fun i σ H11 T hi h s11 nT => ?_) (fun σ H11 h s11 => ?_)
    · obtain ⟨_, _, _, rfl, hA⟩ := h
      have q1 : upd H11 T (.tup [.int i, .int (nth (psums ns) i)]) d1 = some (.dK (fD rs)) := by walk_at "at"
      have q2 : upd H11 T (.tup [.int i, .int (nth (psums ns) i)]) d2 = some (.dK (lD rs)) := by walk_at "at"
      rcases hlk : lk3 rs (nth (psums ns) i) with _ | r
      · have e1 : valV (fD rs) (.inl (nth (psums ns) i)) = none := by rw [valV_fD, hlk]; rfl
        walk_at "go"
        rw [e1]
        simp only [Option.isSome_none, Bool.not_false]
        walk_at "go"
        have e : neverB ns t rs = false := never_not (i := i) (by omega) (by unfold inTab; rw [hlk])
        rw [e] at k
        exact k _ (by walk_at "same")
      · have e1 : valV (fD rs) (.inl (nth (psums ns) i)) = some (.int r.f) := by rw [valV_fD, hlk]; rfl
        have e2 : valV (lD rs) (.inl (nth (psums ns) i)) = some (.int r.l) := by rw [valV_lD, hlk]; rfl
        have eT : inTab ns rs i = (decide (r.f ≤ i) && decide ((i : Int) ≤ r.l)) := by unfold inTab; rw [hlk]
        walk_at "go"
        rw [e1]
        simp only [Option.isSome_some, Bool.not_true, Bool.false_or]
        rw [← eT]
        refine wp_kIfS (fun hd => ?_) (fun hd => ?_)
        · have e : neverB ns t rs = false := never_not (i := i) (by omega) (by simpa using hd)
          rw [e] at k
          walk_at "go"
          exact k _ (by walk_at "same")
        · walk_at "go"
          refine ⟨⟨_, _, _, rfl, fun j hj => ?_⟩, by walk_at "same"⟩
          by_cases c : j = i
          · subst c; simpa using hd
          · exact hA j (by omega)
    · obtain ⟨v6, v7, v8, rfl, hA⟩ := h
      have e1 : (List.range (ns.length + 1)).all (inTab ns rs) = true := by
        rw [List.all_eq_true]
        intro j hj
        rw [List.mem_range] at hj
        exact hA j (by omega)
      have eN : neverB ns t rs = rs.all (noGap t rs) := by
        unfold neverB
        rw [hris, Bool.true_and, e1, Bool.true_and]
      walk_at "go"
      refine forKeys (by with_unfolding_all rfl) (kvs := fD rs) (by walk_at "at") (fun i σ => ∃ v5, σ = [some (.ref a), some (.int t), some (.ref tb), some (.ref d1), some (.ref d2), v5, v6, v7, v8] ∧ ∀ j : Nat, (hj : j < rs.length) → j < i → noGap t rs rs[j] = true) ⟨_, rfl, fun j hj h => by omega⟩ (fun i od σ key v hi h => ?_) (fun σ h => ?_)
      · obtain ⟨_, rfl, hB⟩ := h
        have hi' : i < rs.length := by
          have := (List.getElem?_eq_some_iff.mp hi).1
          omega
        have ei : (fD rs)[i]? = some (Sum.inl rs[i].n, V.int rs[i].f) := by simp [fD, hi']
        rw [ei] at hi
        cases hi
        have f1 : upd H11 d1 (.frz od (.dK (fD rs))) d1 = some (.frz od (.dK (fD rs))) := upd_same
        have f2 : upd H11 d1 (.frz od (.dK (fD rs))) d2 = some (.dK (lD rs)) := by
          rw [upd_ne (Ne.symm hd12)]
          walk_at "at"
        have hS : Same H (upd (upd H11 d1 (.frz od (.dK (fD rs)))) d1 (.dK (fD rs))) := by
          rw [upd_upd]
          walk_at "same"
        have e0 : valV (fD rs) (.inl rs[i].n) = some (.int rs[i].f) := by rw [valV_fD, lk3_at hris hi']; rfl
        have nxt : noGap t rs rs[i] = true → ∀ j : Nat, (hj : j < rs.length) → j < i + 1 → noGap t rs rs[j] = true := by
          intro hg j hj hj2
          by_cases c : j = i
          · subst c; exact hg
          · exact hB j hj (by omega)
        rcases hlk : lk3 rs (rs[i].n + t) with _ | r
        · have e1 : valV (lD rs) (.inl (rs[i].n + t)) = none := by rw [valV_lD, hlk]; rfl
          have eT : noGap t rs rs[i] = true := by unfold noGap; rw [hlk]
          show (gName 5) (.int rs[i].n) _ _ _
          walk_at "go"
          rw [e1]
          simp only [Option.isSome_none]
          walk_at "go"
          exact ⟨⟨_, rfl, nxt eT⟩, rfl⟩
        · have e1 : valV (lD rs) (.inl (rs[i].n + t)) = some (.int r.l) := by rw [valV_lD, hlk]; rfl
          have eT : noGap t rs rs[i] = !decide (rs[i].f < r.l) := by unfold noGap; rw [hlk]
          show (gName 5) (.int rs[i].n) _ _ _
          walk_at "go"
          rw [e1]
          simp only [Option.isSome_some]
          walk_at "go"
          rw [Bool.true_and]
          refine wp_kIfS (fun hc => ?_) (fun hc => ?_)
          · rw [hc] at eT
            have e : neverB ns t rs = false := by
              rw [eN]
              cases q : rs.all (noGap t rs) with
              | false => rfl
              | true =>
                rw [List.all_eq_true] at q
                have := q _ (List.getElem_mem hi')
                rw [eT] at this
                cases this
            rw [e] at k
            walk_at "go"
            exact ⟨upd_same, k _ hS⟩
          · rw [hc] at eT
            walk_at "go"
            exact ⟨⟨_, rfl, nxt eT⟩, rfl⟩
      · obtain ⟨_, rfl, hB⟩ := h
        have e : neverB ns t rs = true := by
          rw [eN, List.all_eq_true]
          intro r hr
          obtain ⟨j, hj, rfl⟩ := List.getElem_of_mem hr
          exact hB j hj (by omega)
        rw [e] at k
        walk_at "go"
        exact k _ (by walk_at "same")
theorem pure_l_right_k04 {K : PySem.W.Frag} {cs : Cs} {vs : List V} {H : Hp} {Q : VK} {E : XK} (c : OkExact K cs.Exact) (c2 : OkNever K cs.Never) (I : IsK04 K cs) (h : sp_l_right_k04 K cs vs H Q E) : t_l_right_k04 K cs { nx := fun _ H' => Q .non H', rt := Q } (start N_l_right_k04 vs) H := by
  obtain ⟨x, dx, a, t, ns, rfl, ha, hz, k, h⟩ := h
  obtain ⟨i, j, k1, k2, k3, k4, k5, l1, l2, l3, l4, l5⟩ := I
  unfold t_l_right_k04
  show (_ : TS) _ [some (.ref a), some (.int t), some (.ref x)] H
  rcases h with ⟨f, m, S, hx⟩ | ⟨tb, rs, N, hrl, hx, htb, hR⟩
  · obtain ⟨⟨f0, m0, fm⟩, S2⟩ := id S
    walk_at "go"
    simp only [Bool.true_eq_false, decide_false]
    walk_at "go"
    refine wp_altL ?_
    walk_at "go"
    refine ⟨x, dx, a, f, m, t, ns, rfl, by walk_at "at", by walk_at "at", fun H1 s1 => ?_⟩
    rw [decide_eq_true S]
    walk_at "go"
    simp only [decide_true, Bool.not_true]
    walk_at "go"
    refine wp_lst2 fun q nq => ?_
    walk_at "go"
    refine ⟨q, [f, m], rfl, upd_same, by show 2 ≤ 1000; decide, fun H2 s2 => ?_⟩
    walk_at "go"
    have e : (decide (f < 0) || decide (m < 1)) = false := by
      simp
      omega
    rw [e]
    walk_at "go"
    rw [decide_eq_false (show ¬ (ns.length : Int) < f + m by omega)]
    walk_at "go"
    rw [decide_eq_true (show (cut ns (some f) (some (f + m))).sum = t from S2)]
    exact k _ (by walk_at "same")
  · walk_at "go"
    simp only [Bool.false_eq_true, decide_false]
    walk_at "go"
    refine wp_altR ?_
    walk_at "go"
    refine ⟨x, dx, tb, a, t, rs, ns, rfl, by walk_at "at", by walk_at "at", hR, by walk_at "at", hz, hrl, fun H1 s1 => ?_⟩
    rw [N]
    walk_at "go"
    simp only [decide_true, Bool.not_true]
    walk_at "go"
    refine ⟨tb, a, t, rs, ns, rfl, by walk_at "at", hR.same s1, by walk_at "at", hz, hrl, fun H2 s2 => ?_⟩
    rw [N]
    exact k _ (by walk_at "same")
theorem pure_l_row {K : PySem.W.Frag} {cs : Cs} {vs : List V} {H : Hp} {Q : VK} {E : XK} (h : sp_l_row K cs vs H Q E) : t_l_row K cs { nx := fun _ H' => Q .non H', rt := Q } (start N_l_row vs) H := by
  obtain ⟨a, ns, rfl, ha, hl, k⟩ := h
  unfold t_l_row
  show (_ : TS) _ [some (.ref a), none, none] H
  walk_at "go"
  refine wp_kTup (by decide) fun p np => ?_
  walk_at "go"
  have h0 : 0 ≤ ns.sum % 4 := Int.emod_nonneg _ (by decide)
  have h1 : ns.sum % 4 < 4 := Int.emod_lt_of_pos _ (by decide)
  refine ⟨p, _, _, _, rfl, rfl, SqT.of upd_same, atI_nth (ns := [3, 10, 10, 1000000]) h0 h1, ?_⟩
  walk_at "go"
  have hm := lmost_cases ns
  show kLc _ _ _ _ [some (.ref a), some (.int (lmost ns)), none] _ _ _
  refine lcI_int (ns := ns) (fun c => c % (2 * lmost ns + 1) - lmost ns) (by walk_at "sq") (by omega) (fun _ => rfl) (fun i H1 hi s1 Q' hq => ?_) (fun p H1 np s1 hp => ?_)
  · show (_ : TE) [some (.ref a), some (.int (lmost ns)), some (.int (nth ns i))] H1 Q'
    walk_at "go"
    refine wp_mulI (.inl (by decide)) ?_
    walk_at "go"
    exact hq _ (Same.refl _)
  · walk_at "go"
    exact k p H1 (by walk_at "nn") (by walk_at "same") hp
theorem pure_Exact_init {K : PySem.W.Frag} {cs : Cs} {vs : List V} {H : Hp} {Q : VK} {E : XK} (c : OkExact K cs.Exact) (h : sp_Exact_init K cs vs H Q E) : t_Exact_init K cs { nx := fun _ H' => Q .non H', rt := Q } (start N_Exact_init vs) H := by
  obtain ⟨p, dx, f, m, rfl, hp, k⟩ := h
  unfold t_Exact_init
  show (_ : TS) _ [some (.ref p), some (.int f), some (.int m)] H
  walk_at "go"
  refine wp_kPutF hp c.cl c.first (by show 0 < 1000; decide) (pt_Exact_first (x0 := f)) ?_
  walk_at "go"
  refine wp_kPutF upd_same c.cl c.many (by show 1 < 1000; decide) (pt_Exact_many (x0 := f) (x1 := m)) ?_
  walk_at "go"
  refine k _ (fun b o e hb => ?_) upd_same
  rw [upd_ne hb, upd_ne hb]
  exact e
theorem pure_Never_init {K : PySem.W.Frag} {cs : Cs} {vs : List V} {H : Hp} {Q : VK} {E : XK} (c : OkNever K cs.Never) (h : sp_Never_init K cs vs H Q E) : t_Never_init K cs { nx := fun _ H' => Q .non H', rt := Q } (start N_Never_init vs) H := by
  obtain ⟨p, dx, a, xs, rfl, hp, ha, k⟩ := h
  have hpa : a ≠ p := ne_of ha hp (by intro z; cases z)
  unfold t_Never_init
  show (_ : TS) _ [some (.ref p), some (.ref a)] H
  walk_at "go"
  refine wp_list (xs := xs) (SqL.of ha) fun t nt => ?_
  walk_at "go"
  refine wp_kPutF (at_new hp nt) c.cl c.table (by show 0 < 1000; decide) (pt_Never_table (x0 := t)) ?_
  walk_at "go"
  have htp : t ≠ p := fun z => by rw [z, hp] at nt; cases nt
  refine k t _ nt (fun b o e hb => ?_) upd_same (by rw [upd_ne htp, upd_same])
  rw [upd_ne hb, upd_ne (ne_of_none e nt)]
  exact e
theorem pure_is_number {K : PySem.W.Frag} {cs : Cs} {vs : List V} {H : Hp} {Q : VK} {E : XK} (h : sp_is_number K cs vs H Q E) : t_is_number K cs { nx := fun _ H' => Q .non H', rt := Q } (start N_is_number vs) H := by
  obtain ⟨i, rfl, k⟩ := h
  unfold t_is_number
  show (_ : TS) _ [some (.int i)] H
  walk_at "go"
  exact k
theorem pure_asked_row {K : PySem.W.Frag} {cs : Cs} {vs : List V} {H : Hp} {Q : VK} {E : XK} (h : sp_asked_row K cs vs H Q E) : t_asked_row K cs { nx := fun _ H' => Q .non H', rt := Q } (start N_asked_row vs) H := by
  obtain ⟨a, ns, rfl, ha, hr, hl, k⟩ := h
  unfold t_asked_row
  show (_ : TS) _ [some (.ref a), none] H
  walk_at "go"
  refine lcI_bl (ns := ns) (fun _ => true) (by walk_at "sq") (by omega) (fun _ => rfl) (fun i H1 hi s1 Q' hq => ?_) (fun p H1 np s1 hp => ?_)
  · have hb := hr _ (nth_mem hi)
    show (_ : TE) [some (.ref a), some (.int (nth ns i))] H1 Q'
    walk_at "go"
    have e : (decide (-1000000 ≤ nth ns ↑i) && decide (nth ns ↑i ≤ 1000000)) = true := by simp [hb.1, hb.2]
    rw [e]
    exact hq _ (Same.refl _)
  · walk_at "go"
    have e : (List.map (fun _ => true) ns).all id = true := by simp
    rw [e]
    walk_at "go"
    exact k _ s1
theorem pure_asked_total {K : PySem.W.Frag} {cs : Cs} {vs : List V} {H : Hp} {Q : VK} {E : XK} (h : sp_asked_total K cs vs H Q E) : t_asked_total K cs { nx := fun _ H' => Q .non H', rt := Q } (start N_asked_total vs) H := by
  obtain ⟨i, rfl, k⟩ := h
  unfold t_asked_total
  show (_ : TS) _ [some (.int i)] H
  walk_at "go"
  exact k
theorem pure_exact {K : PySem.W.Frag} {cs : Cs} {vs : List V} {H : Hp} {Q : VK} {E : XK} (h : sp_exact K cs vs H Q E) : t_exact K cs { nx := fun _ H' => Q .non H', rt := Q } (start N_exact vs) H := by
  obtain ⟨a, ns, t, rfl, ha, hr, hz, kE, kN⟩ := h
  have hps := psums_length ns
  unfold t_exact
  show (_ : TS) _ [some (.ref a), some (.int t), none, none, none, none] H
  walk_at "go"
  refine ⟨a, ns, rfl, by walk_at "at", hr, by omega, fun H1 s1 => ?_⟩
  walk_at "go"
  refine ⟨t, rfl, ?_⟩
  walk_at "go"
  intro d1 nd1
  walk_at "go"
  intro d2 nd2
  have hd12 : d1 ≠ d2 := fun z => by rw [z] at nd2; rw [upd_same] at nd2; cases nd2
  have hdd1 : upd (upd H1 d1 (.dK [])) d2 (.dK []) d1 = some (.dK []) := at_new upd_same nd2
  have nd2' : H1 d2 = none := by rw [upd_ne (Ne.symm hd12)] at nd2; exact nd2
  walk_at "go"
  refine ⟨a, ns, rfl, by walk_at "at", by omega, fun p H2 np s2 hp => ?_⟩
  walk_at "go"
  have g1 : H2 d1 = some (.dK []) := by walk_at "at"
  have g2 : H2 d2 = some (.dK []) := s2 _ _ upd_same
  have hpd1 : p ≠ d1 := ne_of hp g1 (by intro z; cases z)
  have hpd2 : p ≠ d2 := ne_of hp g2 (by intro z; cases z)
  refine forE (ns := psums ns) (fun i σ H' => ∃ v4 v5 kF kL ks, σ = [some (.ref a), some (.int t), some (.ref d1), some (.ref d2), v4, v5] ∧ Same H1 H' ∧ H' p = some (.lst ((psums ns).map V.int)) ∧ H' d1 = some (.dK kF) ∧ H' d2 = some (.dK kL) ∧
      SeenF (psums ns) i kF ∧ SeenL (psums ns) i kL ∧ KeysI kF ks ∧ ks.length ≤ i ∧ kL.length ≤ i ∧ NoPair (psums ns) t i) ⟨_, _, [], [], [], rfl, by walk_at "same", hp, g1, g2, seenF_zero _, seenL_zero _, keysI_nil, by simp, by simp, fun a b _ h => by omega⟩ (fun i σ H3 _ h => ?_) (fun i σ H3 T hi h nT => ?_) (fun σ H3 h => ?_)
  · obtain ⟨_, _, _, _, _, _, _, h3, _⟩ := h
    walk_at "sq"
  · obtain ⟨_, _, kF, kL, ks, rfl, s3, h3, h4, h5, F, L, Ky, lk, ll, NP⟩ := h
    have lkF : kF.length = ks.length := by
      have := congrArg List.length Ky.1
      simpa using this
    have hTp : p ≠ T := ne_of_none h3 nT
    have hTd1 : d1 ≠ T := ne_of_none h4 nT
    have hTd2 : d2 ≠ T := ne_of_none h5 nT
    walk_at "go"
    have Fv := F (nth (psums ns) i - t)
    rcases hv : valV kF (.inl (nth (psums ns) i - t)) with _ | w
    · rw [hv] at Fv
      simp only [Option.isSome_none]
      walk_at "go"
      have NP' : NoPair (psums ns) t (i + 1) := by
        intro b c hbc hc e
        by_cases q : c = i
        · subst q
          exact Fv b hbc (by omega)
        · exact NP b c hbc (by omega) e
      rcases hx : valV kF (.inl (nth (psums ns) i)) with _ | w2
      · simp only [Option.isSome_none, Bool.not_false]
        walk_at "go"
        refine ⟨_, _, _, _, _, rfl, ?_, ?_, ?_, upd_same, F.put hx, L.put, Ky.put hx, by simp; omega, ?_, NP'⟩
        · walk_at "same"
        · rw [upd_ne hpd2, upd_ne hpd1, upd_ne hTp]; exact h3
        · rw [upd_ne hd12, upd_same]
        · have := putK_len' kL (.inl (nth (psums ns) i)) (.int i)
          omega
      · simp only [Option.isSome_some, Bool.not_true]
        walk_at "go"
        refine ⟨_, _, _, _, _, rfl, ?_, ?_, ?_, upd_same, F.keep hx, L.put, Ky, by omega, ?_, NP'⟩
        · walk_at "same"
        · rw [upd_ne hpd2, upd_ne hTp]; exact h3
        · rw [upd_ne hd12, upd_ne hTd1]; exact h4
        · have := putK_len' kL (.inl (nth (psums ns) i)) (.int i)
          omega
    · rw [hv] at Fv
      obtain ⟨j, hj, rfl, ej, _⟩ := Fv
      simp only [Option.isSome_some]
      walk_at "go"
      refine make_Exact fun x dx H4 nx s4 hx => ?_
      walk_at "go"
      have hS : segS ns (j : Int) ((i : Int) - j) = t := by
        rw [segS_pre ns (by omega) (by omega) (by omega), show (j : Int) + ((i : Int) - j) = (i : Int) by omega]
        omega
      exact kE x dx _ _ H4 ⟨⟨by omega, by omega, by omega⟩, hS⟩ (pairs_pos t (psums ns) j i hj hi (by omega)) (by walk_at "nn") (by walk_at "same") hx
  · obtain ⟨_, _, kF, kL, ks, rfl, s3, h3, h4, h5, F, L, Ky, lk, ll, NP⟩ := h
    walk_at "go"
    refine ⟨d1, kF, ks, rfl, h4, Ky.1, by omega, fun zs q hperm hsort nq => ?_⟩
    have hzl : zs.length = ks.length := hperm.length_eq
    have hnd : zs.Nodup := hperm.nodup_iff.mpr Ky.2
    have h4' : upd H3 q (.lst (zs.map V.int)) d1 = some (.dK kF) := at_new h4 nq
    have h5' : upd H3 q (.lst (zs.map V.int)) d2 = some (.dK kL) := at_new h5 nq
    have hrow : ∀ z ∈ zs, ∃ f l : Int, valV kF (.inl z) = some (.int f) ∧ valV kL (.inl z) = some (.int l) ∧ ∀ ad, tabOf (psums ns) z ⟨ad, z, f, l⟩ := by
      intro z hzm
      obtain ⟨w, hw⟩ := Ky.has (hperm.mem_iff.mp hzm)
      have Fz := F z
      rw [hw] at Fz
      obtain ⟨j, a1, rfl, a3, a4⟩ := Fz
      have Lz := L z
      rcases hw2 : valV kL (.inl z) with _ | w2
      · rw [hw2] at Lz
        exact absurd a3 (Lz j a1)
      · rw [hw2] at Lz
        obtain ⟨j2, c1, rfl, c3, c4⟩ := Lz
        exact ⟨j, j2, hw, rfl, fun ad => ⟨rfl, ⟨j, a1, rfl, a3, a4⟩, ⟨j2, c1, rfl, c3, c4⟩⟩⟩
    walk_at "go"
    refine lcTab (zs := zs) (SqL.of upd_same) (by omega) (fun _ => rfl) (fun z f l => valV kF (.inl z) = some (.int f) ∧ valV kL (.inl z) = some (.int l)) (fun z hz => by obtain ⟨f, l, e1, e2, _⟩ := hrow z hz; exact ⟨f, l, e1, e2⟩) (fun z f l H4 s4 hz e Q1 hq => ?_) (fun b rs H4 nb s4 hb hR hne e1 e2 => ?_)
    · obtain ⟨e1, e2⟩ := e
      show (_ : TE) [some (.ref a), some (.int t), some (.ref d1), some (.ref d2), _, some (.int z)] H4 Q1
      walk_at "go"
      exact wp_kTup (by show 3 ≤ 100000; decide) fun T nT => hq T nT
    · walk_at "go"
      refine make_Never hb fun x dx tb H5 nx ntb s5 hx htb => ?_
      walk_at "go"
      have hall : ∀ j : Nat, j < (psums ns).length → nth (psums ns) j ∈ zs := by
        intro j hj
        have Fz := F (nth (psums ns) j)
        rcases hw : valV kF (.inl (nth (psums ns) j)) with _ | w
        · rw [hw] at Fz
          exact absurd rfl (Fz j hj)
        · exact hperm.mem_iff.mpr (Ky.mem hw)
      have hnv : neverB ns t rs = true := never_holds e1 (fun i hi => by
        obtain ⟨q1, q2, q3⟩ := e2 i hi
        obtain ⟨f, l, w1, w2, w3⟩ := hrow _ (List.getElem_mem (show i < zs.length by omega))
        rw [q2] at w1
        rw [q3] at w2
        cases w1
        cases w2
        have := w3 rs[i].ad
        rw [← q1] at this ⊢
        exact this) hsort hnd hall NP
      have hcnt : cntOf ns t = 0 := pairs_zero t _ NP
      have hrs : rs ≠ [] := by
        intro z
        have := hall 0 (by omega)
        rw [z] at e1
        have : zs = [] := List.length_eq_zero_iff.mp e1.symm
        rw [this] at hall
        exact absurd (hall 0 (by omega)) (by simp)
      exact kN x dx tb rs H5 hnv hcnt hrs (by omega) (by walk_at "nn") (by walk_at "nn") (by walk_at "same") hx htb (hR.same s5) (fun r hr => ne_of_none (hR r hr) ntb)
theorem pure_how_many {K : PySem.W.Frag} {cs : Cs} {vs : List V} {H : Hp} {Q : VK} {E : XK} (h : sp_how_many K cs vs H Q E) : t_how_many K cs { nx := fun _ H' => Q .non H', rt := Q } (start N_how_many vs) H := by
  obtain ⟨a, ns, t, rfl, ha, hr, hl, k⟩ := h
  unfold t_how_many
  show (_ : TS) _ [some (.ref a), some (.int t), none, none, none] H
  walk_at "go"
  refine ⟨a, ns, rfl, by walk_at "at", hr, hl, fun H1 s1 => ?_⟩
  walk_at "go"
  refine ⟨t, rfl, ?_⟩
  walk_at "go"
  intro d nd
  walk_at "go"
  refine ⟨a, ns, rfl, by walk_at "at", hl, fun p H2 np s2 hp => ?_⟩
  walk_at "go"
  have hz := psums_length ns
  have hd : H2 d = some (.dK []) := by walk_at "at"
  refine forI (ns := psums ns) (fun i σ H' => ∃ v kvs, σ = [some (.ref a), some (.int t), some (.ref d), some (.int (pairs t ((psums ns).take i))), v] ∧ H' p = some (.lst ((psums ns).map V.int)) ∧ Same H H' ∧ H' d = some (.dK kvs) ∧ CntD kvs ((psums ns).take i)) ⟨_, [], rfl, hp, by walk_at "same", hd, cntD_nil⟩ (fun i σ H' _ h => ?_) (fun i σ H' hi h => ?_) (fun σ H' h => ?_)
  · obtain ⟨_, _, _, hp, _⟩ := h
    walk_at "sq"
  · obtain ⟨_, kvs, rfl, hp, s, hd, hc⟩ := h
    have hk := hc.2
    rw [List.length_take] at hk
    have et : (psums ns).take (i + 1) = (psums ns).take i ++ [nth (psums ns) i] := by
      rw [List.take_add_one, List.getElem?_eq_getElem hi]
      simp [nth, hi]
    walk_at "go"
    rw [hc.1]
    walk_at "go"
    rw [hc.1]
    walk_at "go"
    refine ⟨_, _, by rw [et, pairs_snoc], ?_, ?_, upd_same, ?_⟩
    · have : p ≠ d := ne_of hp hd (by intro z; cases z)
      walk_at "at"
    · have : H d = none := by walk_at "nn"
      walk_at "same"
    · rw [et]
      refine cntD_put hc (fun v => ?_) (by simp)
      rw [List.count_append]
      simp only [List.count_cons, List.count_nil, beq_iff_eq]
      by_cases e : nth (psums ns) i = v
      · rw [if_pos e, if_pos e.symm]
      · rw [if_neg e, if_neg (fun z => e z.symm)]
  · obtain ⟨_, kvs, rfl, hp, s, hd, hc⟩ := h
    walk_at "go"
    rw [List.take_length]
    exact k _ s
theorem pure_law_k04 {K : PySem.W.Frag} {cs : Cs} {vs : List V} {H : Hp} {Q : VK} {E : XK} (c : OkExact K cs.Exact) (c2 : OkNever K cs.Never) (I : IsK04 K cs) (h : sp_law_k04 K cs vs H Q E) : t_law_k04 K cs { nx := fun _ H' => Q .non H', rt := Q } (start N_law_k04 vs) H := by
  obtain ⟨s, ns, rfl, hS, hl, k⟩ := h
  obtain ⟨i, j, k1, k2, k3, k4, k5, l1, l2, l3, l4, l5⟩ := id I
  unfold t_law_k04
  show (_ : TS) _ [some (.ref s), none, none, none, none, none, none, none, none] H
  have hrow := lrow_row ns
  have hlen := lrow_length ns
  generalize erow : lrow ns = row at hrow hlen
  walk_at "go"
  refine ⟨s, ns, rfl, hS, by omega, ?_⟩
  rw [erow]
  intro r H1 nr s1 hr
  walk_at "go"
  refine wp_list (xs := row.map V.int) (by walk_at "sq") fun h nh => ?_
  walk_at "go"
  generalize ns.sum = S
  refine wp_lst5 fun q nq => ?_
  generalize ([0, (cut row (some (S / 4 % ((row.length : Int) + 1))) (some (S / 4 % ((row.length : Int) + 1) + 1 + S / 28 % ((row.length : Int) + 1)))).sum, (cut row (some (S / 4 % ((row.length : Int) + 1))) (some (S / 4 % ((row.length : Int) + 1) + 1 + S / 28 % ((row.length : Int) + 1)))).sum + 1, S % 41 - 20, (cut row (some (S / 4 % ((row.length : Int) + 1))) (some (S / 4 % ((row.length : Int) + 1) + 1 + S / 28 % ((row.length : Int) + 1)))).sum] : List Int) = L at nq ⊢
  walk_at "go"
  refine forIS (ns := L) (SqL.of upd_same) (fun i σ => ∃ v5 v6 v7 v8, σ = [some (.ref s), some (.ref r), some (.ref h), some (.int S), some (.int (S / 4 % ((row.length : Int) + 1))), v5, v6, v7, v8]) ⟨_, _, _, _, rfl⟩ (fun i σ H2 hi h2 s2 => ?_) (fun σ H2 h2 s2 => ?_)
  · obtain ⟨v5, v6, v7, v8, rfl⟩ := h2
    generalize nth L (i : Int) = T
    have hr2 : H2 r = some (.lst (row.map V.int)) := by walk_at "at"
    have hh2 : H2 h = some (.lst (row.map V.int)) := by walk_at "at"
    walk_at "go"
    refine ⟨h, row, T, rfl, by walk_at "at", hrow, by omega, fun x dx f m H3 SH cnt nx s3 hx => ?_, fun x dx tb rs H3 N cnt hne hrl nx ntb s3 hx htb hR hnt => ?_⟩
    · walk_at "go"
      refine ⟨x, dx, r, T, row, rfl, by walk_at "at", by omega, fun H4 s4 => ?_, .inl ⟨f, m, SH, by walk_at "at"⟩⟩
      walk_at "go"
      simp only [decide_true, Bool.not_true]
      walk_at "go"
      refine ⟨h, row, T, rfl, by walk_at "at", hrow, by omega, fun H5 s5 => ?_⟩
      walk_at "go"
      refine wp_lst1 fun q2 nq2 => ?_
      walk_at "go"
      refine ⟨q2, [cntOf row T], rfl, upd_same, by show 1 ≤ 1000; decide, fun H6 s6 => ?_⟩
      walk_at "go"
      refine ⟨r, row, T, rfl, by walk_at "at", by omega, fun H7 s7 => ?_⟩
      walk_at "go"
      have e : (!decide (cntOf row T = cntOf row T) || !decide (decide (0 < cntOf row T) = true)) = false := by simp [cnt]
      rw [e]
      walk_at "go"
      exact ⟨⟨_, _, _, _, rfl⟩, by walk_at "same"⟩
    · walk_at "go"
      refine ⟨x, dx, r, T, row, rfl, by walk_at "at", by omega, fun H4 s4 => ?_, .inr ⟨tb, rs, N, by omega, by walk_at "at", by walk_at "at", hR⟩⟩
      walk_at "go"
      simp only [decide_true, Bool.not_true]
      walk_at "go"
      refine ⟨h, row, T, rfl, by walk_at "at", hrow, by omega, fun H5 s5 => ?_⟩
      walk_at "go"
      refine wp_lst1 fun q2 nq2 => ?_
      walk_at "go"
      refine ⟨q2, [cntOf row T], rfl, upd_same, by show 1 ≤ 1000; decide, fun H6 s6 => ?_⟩
      walk_at "go"
      refine ⟨r, row, T, rfl, by walk_at "at", by omega, fun H7 s7 => ?_⟩
      walk_at "go"
      have e : (!decide (cntOf row T = cntOf row T) || !decide (decide (0 < cntOf row T) = false)) = false := by simp [cnt]
      rw [e]
      walk_at "go"
      refine wp_revI (ns := row) (by walk_at "sq") fun b1 nb1 => ?_
      walk_at "go"
      refine wp_lst1 fun q3 nq3 => ?_
      walk_at "go"
      rename_i b2 nb2
      refine wp_lstR (by show 2 ≤ 100000; decide) fun q4 nq4 => ?_
      walk_at "go"
      refine forRS (xs := [.ref b1, .ref b2]) (SqL.of upd_same) (fun i σ => ∃ v5, σ = [some (.ref s), some (.ref r), some (.ref h), some (.int S), some (.int (S / 4 % ((row.length : Int) + 1))), v5, some (.int T), some (.ref x), some (.int (cntOf row T))]) ⟨_, rfl⟩ (fun j y σ H8 hj h8 s8 => ?_) (fun σ H8 h8 s8 => ?_)
      · obtain ⟨_, rfl⟩ := h8
        have hb1 : H8 b1 = some (.lst (row.reverse.map V.int)) := by walk_at "at"
        have hb2 : H8 b2 = some (.lst ((row ++ [1]).map V.int)) := by walk_at "at"
        obtain ⟨b, ms, rfl, hb, hms⟩ : ∃ (b : Addr) (ms : List Int), y = .ref b ∧ H8 b = some (.lst (ms.map V.int)) ∧ ms.length ≤ 1000 := by
          match j, hj with
          | 0, hj => cases hj; exact ⟨b1, row.reverse, rfl, hb1, by rw [List.length_reverse]; omega⟩
          | 1, hj => cases hj; exact ⟨b2, row ++ [1], rfl, hb2, by rw [List.length_append]; show row.length + 1 ≤ 1000; omega⟩
        have hR8 : Rows H8 rs := fun z hz => by
          have := hR z hz
          walk_at "at"
        walk_at "go"
        refine wp_altR ?_
        walk_at "go"
        refine ⟨x, dx, tb, b, T, rs, ms, rfl, by walk_at "at", by walk_at "at", hR8, by walk_at "at", hms, by omega, fun H9 s9 => ?_⟩
        walk_at "go"
        refine ⟨tb, b, T, rs, ms, rfl, by walk_at "at", hR8.same s9, by walk_at "at", hms, by omega, fun H10 s10 => ?_⟩
        walk_at "go"
        simp only [decide_true, Bool.not_true]
        walk_at "go"
        exact ⟨⟨_, rfl⟩, by walk_at "same"⟩
      · obtain ⟨_, rfl⟩ := h8
        have hR8 : Rows H8 rs := fun z hz => by
          have := hR z hz
          walk_at "at"
        have htb8 : H8 tb = some (.lst (refs3 rs)) := by walk_at "at"
        have hlast : H8 (rs.getLast hne).ad = some (.tup [.int (rs.getLast hne).n, .int (rs.getLast hne).f, .int (rs.getLast hne).l]) := hR8 _ (List.getLast_mem hne)
        walk_at "go"
        refine ⟨tb, _, _, _, rfl, rfl, SqL.of (by walk_at "at"), atI_last3 hne, ?_⟩
        walk_at "go"
        refine wp_kTup (by show 3 ≤ 100000; decide) fun U nU => ?_
        have hrl' := refs3_length rs
        have htU : tb ≠ U := ne_of_none htb8 nU
        have ntb2 : H2 tb = none := ntb
        walk_at "go"
        refine wp_altR ?_
        have hx8 : H8 x = some (.ins cs.Never dx (fNever tb)) := by walk_at "at"
        have hxt : x ≠ tb := ne_of hx8 htb8 (by intro z; cases z)
        have hRn : Rows (upd (upd H8 U (.tup [.int ((rs.getLast hne).n - 1), .int 0, .int 0])) tb (.lst (refs3 rs ++ [.ref U]))) (rs ++ [⟨U, (rs.getLast hne).n - 1, 0, 0⟩]) := by
          intro z hz
          rcases List.mem_append.mp hz with hz | hz
          · rw [upd_ne (hnt z hz)]
            exact at_new (hR8 z hz) nU
          · rw [List.mem_singleton] at hz
            subst hz
            rw [upd_ne (Ne.symm htU)]
            exact upd_same
        have htn : upd (upd H8 U (.tup [.int ((rs.getLast hne).n - 1), .int 0, .int 0])) tb (.lst (refs3 rs ++ [.ref U])) tb = some (.lst (refs3 (rs ++ [⟨U, (rs.getLast hne).n - 1, 0, 0⟩]))) := by
          rw [upd_same]
          simp [refs3]
        walk_at "go"
        refine ⟨x, dx, tb, r, T, rs ++ [⟨U, (rs.getLast hne).n - 1, 0, 0⟩], row, rfl, by walk_at "at", htn, hRn, by walk_at "at", by omega, by rw [List.length_append]; show rs.length + 1 ≤ 1000; omega, fun H9 s9 => ?_⟩
        rw [never_not_snoc hne (by show (rs.getLast hne).n - 1 < (rs.getLast hne).n; omega)]
        walk_at "go"
        simp only [decide_true, Bool.not_true]
        walk_at "go"
        exact ⟨⟨_, _, _, _, rfl⟩, by walk_at "same"⟩
  · obtain ⟨v5, v6, v7, v8, rfl⟩ := h2
    have hr2 : H2 r = some (.lst (row.map V.int)) := by walk_at "at"
    have hh2 : H2 h = some (.lst (row.map V.int)) := by walk_at "at"
    walk_at "go"
    simp only [decide_true]
    exact k _
end Bs
namespace Bs
open PySem L2
def top (i : Nat) : Stmt := PySem.Challenge.pw_beststretch_k04_whole_exact.main.body.getD i (.Pass ⟨0, 0, 0, 0⟩)
abbrev s_is_there : Stmt := top 12
theorem sc_is_there : FnScope N_is_there (["first", "many", "length"] : List Str) (defScope s_is_there) := ⟨rfl, rfl, rfl, by decide +kernel, rfl, by decide +kernel, by decide +kernel⟩
abbrev s_Exact_shows : Stmt := inClass (top 16) 1
theorem sc_Exact_shows : FnScope N_Exact_shows (["self", "row", "total"] : List Str) (defScope s_Exact_shows) := ⟨rfl, rfl, rfl, by decide +kernel, rfl, by decide +kernel, by decide +kernel⟩
abbrev s_summed : Stmt := top 9
theorem sc_summed : FnScope N_summed (["row"] : List Str) (defScope s_summed) := ⟨rfl, rfl, rfl, by decide +kernel, rfl, by decide +kernel, by decide +kernel⟩
abbrev s_Never_shows : Stmt := inClass (top 17) 1
theorem sc_Never_shows : FnScope N_Never_shows (["self", "row", "total"] : List Str) (defScope s_Never_shows) := ⟨rfl, rfl, rfl, by decide +kernel, rfl, by decide +kernel, by decide +kernel⟩
abbrev s_l_sums : Stmt := top 23
theorem sc_l_sums : FnScope N_l_sums (["_law_row_here"] : List Str) (defScope s_l_sums) := ⟨rfl, rfl, rfl, by decide +kernel, rfl, by decide +kernel, by decide +kernel⟩
abbrev s_l_count : Stmt := top 27
theorem sc_l_count : FnScope N_l_count (["_law_row_here", "_law_total"] : List Str) (defScope s_l_count) := ⟨rfl, rfl, rfl, by decide +kernel, rfl, by decide +kernel, by decide +kernel⟩
abbrev s_l_numbers : Stmt := top 24
theorem sc_l_numbers : FnScope N_l_numbers (["_law_found"] : List Str) (defScope s_l_numbers) := ⟨rfl, rfl, rfl, by decide +kernel, rfl, by decide +kernel, by decide +kernel⟩
abbrev s_l_none_k04 : Stmt := top 25
theorem sc_l_none_k04 : FnScope N_l_none_k04 (["_law_row_here", "_law_total", "_law_table"] : List Str) (defScope s_l_none_k04) := ⟨rfl, rfl, rfl, by decide +kernel, rfl, by decide +kernel, by decide +kernel⟩
abbrev s_l_right_k04 : Stmt := top 26
theorem sc_l_right_k04 : FnScope N_l_right_k04 (["_law_row_here", "_law_total", "_law_found"] : List Str) (defScope s_l_right_k04) := ⟨rfl, rfl, rfl, by decide +kernel, rfl, by decide +kernel, by decide +kernel⟩
abbrev s_l_row : Stmt := top 22
theorem sc_l_row : FnScope N_l_row (["_law_script"] : List Str) (defScope s_l_row) := ⟨rfl, rfl, rfl, by decide +kernel, rfl, by decide +kernel, by decide +kernel⟩
abbrev s_Exact_init : Stmt := inClass (top 16) 0
theorem sc_Exact_init : FnScope N_Exact_init (["self", "first", "many"] : List Str) (defScope s_Exact_init) := ⟨rfl, rfl, rfl, by decide +kernel, rfl, by decide +kernel, by decide +kernel⟩
abbrev s_Never_init : Stmt := inClass (top 17) 0
theorem sc_Never_init : FnScope N_Never_init (["self", "table"] : List Str) (defScope s_Never_init) := ⟨rfl, rfl, rfl, by decide +kernel, rfl, by decide +kernel, by decide +kernel⟩
abbrev s_is_number : Stmt := top 6
theorem sc_is_number : FnScope N_is_number (["thing"] : List Str) (defScope s_is_number) := ⟨rfl, rfl, rfl, by decide +kernel, rfl, by decide +kernel, by decide +kernel⟩
abbrev s_asked_row : Stmt := top 7
theorem sc_asked_row : FnScope N_asked_row (["row"] : List Str) (defScope s_asked_row) := ⟨rfl, rfl, rfl, by decide +kernel, rfl, by decide +kernel, by decide +kernel⟩
abbrev s_asked_total : Stmt := top 8
theorem sc_asked_total : FnScope N_asked_total (["total"] : List Str) (defScope s_asked_total) := ⟨rfl, rfl, rfl, by decide +kernel, rfl, by decide +kernel, by decide +kernel⟩
abbrev s_exact : Stmt := top 19
theorem sc_exact : FnScope N_exact (["row", "total"] : List Str) (defScope s_exact) := ⟨rfl, rfl, rfl, by decide +kernel, rfl, by decide +kernel, by decide +kernel⟩
abbrev s_how_many : Stmt := top 20
theorem sc_how_many : FnScope N_how_many (["row", "total"] : List Str) (defScope s_how_many) := ⟨rfl, rfl, rfl, by decide +kernel, rfl, by decide +kernel, by decide +kernel⟩
abbrev s_law_k04 : Stmt := top 28
theorem sc_law_k04 : FnScope N_law_k04 (["_law_script"] : List Str) (defScope s_law_k04) := ⟨rfl, rfl, rfl, by decide +kernel, rfl, by decide +kernel, by decide +kernel⟩
structure Txt (K : PySem.W.Frag) (mg : Str → Option Value) (cs : Cs) where
  n_all : mg "all" = none
  n_any : mg "any" = none
  n_bool : mg "bool" = none
  n_enumerate : mg "enumerate" = none
  n_int : mg "int" = none
  n_isinstance : mg "isinstance" = none
  n_len : mg "len" = none
  n_list : mg "list" = none
  n_range : mg "range" = none
  n_sorted : mg "sorted" = none
  n_sum : mg "sum" = none
  n_tuple : mg "tuple" = none
  k_FARTHEST : Tok
  g_FARTHEST : mg "FARTHEST" = some (.int 1000000 k_FARTHEST)
  g_Answer : mg "Answer" = some (.ref cs.Answer)
  g_Around : mg "Around" = some (.ref cs.Around)
  g_Best : mg "Best" = some (.ref cs.Best)
  g_Exact : mg "Exact" = some (.ref cs.Exact)
  g_Never : mg "Never" = some (.ref cs.Never)
  cl_Exact : Cls K cs.Exact
  cl_Never : Cls K cs.Never
  na_Exact_first : NoAttr K cs.Exact "first"
  na_Exact_many : NoAttr K cs.Exact "many"
  na_Exact_table : NoAttr K cs.Exact "table"
  na_Never_first : NoAttr K cs.Never "first"
  na_Never_many : NoAttr K cs.Never "many"
  na_Never_table : NoAttr K cs.Never "table"
  f_is_there : Addr
  d_is_there : FuncData
  F_is_there : Fun K "is_there" "is_there" s_is_there f_is_there d_is_there
  b_is_there : Binds K d_is_there (["first", "many", "length"] : List Str) []
  g_is_there : mg "is_there" = some (.ref f_is_there)
  f_Exact_shows : Addr
  d_Exact_shows : FuncData
  F_Exact_shows : Fun K "shows" "Exact.shows" s_Exact_shows f_Exact_shows d_Exact_shows
  b_Exact_shows : Binds K d_Exact_shows (["self", "row", "total"] : List Str) []
  me_Exact_shows : Meth K cs.Exact "shows" f_Exact_shows
  f_summed : Addr
  d_summed : FuncData
  F_summed : Fun K "summed" "summed" s_summed f_summed d_summed
  b_summed : Binds K d_summed (["row"] : List Str) []
  g_summed : mg "summed" = some (.ref f_summed)
  f_Never_shows : Addr
  d_Never_shows : FuncData
  F_Never_shows : Fun K "shows" "Never.shows" s_Never_shows f_Never_shows d_Never_shows
  b_Never_shows : Binds K d_Never_shows (["self", "row", "total"] : List Str) []
  me_Never_shows : Meth K cs.Never "shows" f_Never_shows
  f_l_sums : Addr
  d_l_sums : FuncData
  F_l_sums : Fun K "_law_sums" "_law_sums" s_l_sums f_l_sums d_l_sums
  b_l_sums : Binds K d_l_sums (["_law_row_here"] : List Str) []
  g_l_sums : mg "_law_sums" = some (.ref f_l_sums)
  f_l_count : Addr
  d_l_count : FuncData
  F_l_count : Fun K "_law_count" "_law_count" s_l_count f_l_count d_l_count
  b_l_count : Binds K d_l_count (["_law_row_here", "_law_total"] : List Str) []
  g_l_count : mg "_law_count" = some (.ref f_l_count)
  f_l_numbers : Addr
  d_l_numbers : FuncData
  F_l_numbers : Fun K "_law_numbers" "_law_numbers" s_l_numbers f_l_numbers d_l_numbers
  b_l_numbers : Binds K d_l_numbers (["_law_found"] : List Str) []
  g_l_numbers : mg "_law_numbers" = some (.ref f_l_numbers)
  f_l_none_k04 : Addr
  d_l_none_k04 : FuncData
  F_l_none_k04 : Fun K "_law_none" "_law_none" s_l_none_k04 f_l_none_k04 d_l_none_k04
  b_l_none_k04 : Binds K d_l_none_k04 (["_law_row_here", "_law_total", "_law_table"] : List Str) []
  g_l_none_k04 : mg "_law_none" = some (.ref f_l_none_k04)
  f_l_right_k04 : Addr
  d_l_right_k04 : FuncData
  F_l_right_k04 : Fun K "_law_right" "_law_right" s_l_right_k04 f_l_right_k04 d_l_right_k04
  b_l_right_k04 : Binds K d_l_right_k04 (["_law_row_here", "_law_total", "_law_found"] : List Str) []
  g_l_right_k04 : mg "_law_right" = some (.ref f_l_right_k04)
  f_l_row : Addr
  d_l_row : FuncData
  F_l_row : Fun K "_law_row" "_law_row" s_l_row f_l_row d_l_row
  b_l_row : Binds K d_l_row (["_law_script"] : List Str) []
  g_l_row : mg "_law_row" = some (.ref f_l_row)
  f_Exact_init : Addr
  d_Exact_init : FuncData
  F_Exact_init : Fun K "__init__" "Exact.__init__" s_Exact_init f_Exact_init d_Exact_init
  b_Exact_init : Binds K d_Exact_init (["self", "first", "many"] : List Str) []
  f_Never_init : Addr
  d_Never_init : FuncData
  F_Never_init : Fun K "__init__" "Never.__init__" s_Never_init f_Never_init d_Never_init
  b_Never_init : Binds K d_Never_init (["self", "table"] : List Str) []
  f_is_number : Addr
  d_is_number : FuncData
  F_is_number : Fun K "is_number" "is_number" s_is_number f_is_number d_is_number
  b_is_number : Binds K d_is_number (["thing"] : List Str) []
  g_is_number : mg "is_number" = some (.ref f_is_number)
  f_asked_row : Addr
  d_asked_row : FuncData
  F_asked_row : Fun K "asked_row" "asked_row" s_asked_row f_asked_row d_asked_row
  b_asked_row : Binds K d_asked_row (["row"] : List Str) []
  g_asked_row : mg "asked_row" = some (.ref f_asked_row)
  f_asked_total : Addr
  d_asked_total : FuncData
  F_asked_total : Fun K "asked_total" "asked_total" s_asked_total f_asked_total d_asked_total
  b_asked_total : Binds K d_asked_total (["total"] : List Str) []
  g_asked_total : mg "asked_total" = some (.ref f_asked_total)
  f_exact : Addr
  d_exact : FuncData
  F_exact : Fun K "exact" "exact" s_exact f_exact d_exact
  b_exact : Binds K d_exact (["row", "total"] : List Str) []
  g_exact : mg "exact" = some (.ref f_exact)
  f_how_many : Addr
  d_how_many : FuncData
  F_how_many : Fun K "how_many" "how_many" s_how_many f_how_many d_how_many
  b_how_many : Binds K d_how_many (["row", "total"] : List Str) []
  g_how_many : mg "how_many" = some (.ref f_how_many)
  f_law_k04 : Addr
  d_law_k04 : FuncData
  F_law_k04 : Fun K "law" "law" s_law_k04 f_law_k04 d_law_k04
  b_law_k04 : Binds K d_law_k04 (["_law_script"] : List Str) []
  g_law_k04 : mg "law" = some (.ref f_law_k04)
  mk_Exact : Mk K cs.Exact f_Exact_init
  mk_Never : Mk K cs.Never f_Never_init
  xn : PySem.W.specialIn K (.builtin "object.__class__") "__get__" = some (some (.builtin "getset_descriptor.__get__"))
  xt : PySem.W.takesIn K (.builtin "object.__class__") = some true
  xa_Exact : PySem.W.findIn K (.ref cs.Exact) "__class__" = some (some (.builtin "object.__class__"))
  xm_Exact : PySem.W.mroIn K cs.Exact (.type "object") = some true
  xc_Answer : PySem.W.isClsIn K cs.Answer = true
  xy_Answer : PySem.W.typeIn K (.ref cs.Answer) = some (.type "type")
  xs_Exact : PySem.W.subIn K (.ref cs.Exact) (.ref cs.Exact) = some true
  xk_Exact_Answer : PySem.W.subIn K (.ref cs.Exact) (.ref cs.Answer) = some true
  xc_Exact : PySem.W.isClsIn K cs.Exact = true
  xy_Exact : PySem.W.typeIn K (.ref cs.Exact) = some (.type "type")
  xk_Exact_Exact : PySem.W.subIn K (.ref cs.Exact) (.ref cs.Exact) = some true
  xc_Never : PySem.W.isClsIn K cs.Never = true
  xy_Never : PySem.W.typeIn K (.ref cs.Never) = some (.type "type")
  xk_Exact_Never : PySem.W.subIn K (.ref cs.Exact) (.ref cs.Never) = some false
  xc_Best : PySem.W.isClsIn K cs.Best = true
  xy_Best : PySem.W.typeIn K (.ref cs.Best) = some (.type "type")
  xk_Exact_Best : PySem.W.subIn K (.ref cs.Exact) (.ref cs.Best) = some false
  xc_Around : PySem.W.isClsIn K cs.Around = true
  xy_Around : PySem.W.typeIn K (.ref cs.Around) = some (.type "type")
  xk_Exact_Around : PySem.W.subIn K (.ref cs.Exact) (.ref cs.Around) = some false
  xa_Never : PySem.W.findIn K (.ref cs.Never) "__class__" = some (some (.builtin "object.__class__"))
  xm_Never : PySem.W.mroIn K cs.Never (.type "object") = some true
  xs_Never : PySem.W.subIn K (.ref cs.Never) (.ref cs.Never) = some true
  xk_Never_Answer : PySem.W.subIn K (.ref cs.Never) (.ref cs.Answer) = some true
  xk_Never_Exact : PySem.W.subIn K (.ref cs.Never) (.ref cs.Exact) = some false
  xk_Never_Never : PySem.W.subIn K (.ref cs.Never) (.ref cs.Never) = some true
  xk_Never_Best : PySem.W.subIn K (.ref cs.Never) (.ref cs.Best) = some false
  xk_Never_Around : PySem.W.subIn K (.ref cs.Never) (.ref cs.Around) = some false
section
variable {P : Program} {w : World} {K : PySem.W.Frag} {mg : Str → Option Value} {base : Heap} {cs : Cs}
theorem T_isi_Exact (T : Txt K mg cs) : IsiC K cs.Exact := ⟨T.cl_Exact, T.xa_Exact, T.xn, T.xt, T.xm_Exact⟩
theorem T_kit_Exact_Answer (T : Txt K mg cs) : PySem.W.kitOne K (.ref cs.Exact) (.ref cs.Answer) = some true := kitOne_of T.xc_Answer T.xy_Answer T.xk_Exact_Answer T.xs_Exact
theorem T_kit_Exact_Exact (T : Txt K mg cs) : PySem.W.kitOne K (.ref cs.Exact) (.ref cs.Exact) = some true := kitOne_of T.xc_Exact T.xy_Exact T.xk_Exact_Exact T.xs_Exact
theorem T_kit_Exact_Never (T : Txt K mg cs) : PySem.W.kitOne K (.ref cs.Exact) (.ref cs.Never) = some false := kitOne_of T.xc_Never T.xy_Never T.xk_Exact_Never T.xs_Exact
theorem T_kit_Exact_Best (T : Txt K mg cs) : PySem.W.kitOne K (.ref cs.Exact) (.ref cs.Best) = some false := kitOne_of T.xc_Best T.xy_Best T.xk_Exact_Best T.xs_Exact
theorem T_kit_Exact_Around (T : Txt K mg cs) : PySem.W.kitOne K (.ref cs.Exact) (.ref cs.Around) = some false := kitOne_of T.xc_Around T.xy_Around T.xk_Exact_Around T.xs_Exact
theorem T_isi_Never (T : Txt K mg cs) : IsiC K cs.Never := ⟨T.cl_Never, T.xa_Never, T.xn, T.xt, T.xm_Never⟩
theorem T_kit_Never_Answer (T : Txt K mg cs) : PySem.W.kitOne K (.ref cs.Never) (.ref cs.Answer) = some true := kitOne_of T.xc_Answer T.xy_Answer T.xk_Never_Answer T.xs_Never
theorem T_kit_Never_Exact (T : Txt K mg cs) : PySem.W.kitOne K (.ref cs.Never) (.ref cs.Exact) = some false := kitOne_of T.xc_Exact T.xy_Exact T.xk_Never_Exact T.xs_Never
theorem T_kit_Never_Never (T : Txt K mg cs) : PySem.W.kitOne K (.ref cs.Never) (.ref cs.Never) = some true := kitOne_of T.xc_Never T.xy_Never T.xk_Never_Never T.xs_Never
theorem T_kit_Never_Best (T : Txt K mg cs) : PySem.W.kitOne K (.ref cs.Never) (.ref cs.Best) = some false := kitOne_of T.xc_Best T.xy_Best T.xk_Never_Best T.xs_Never
theorem T_kit_Never_Around (T : Txt K mg cs) : PySem.W.kitOne K (.ref cs.Never) (.ref cs.Around) = some false := kitOne_of T.xc_Around T.xy_Around T.xk_Never_Around T.xs_Never
theorem T_okExact (T : Txt K mg cs) : OkExact K cs.Exact := ⟨T.cl_Exact, T.na_Exact_first, T.na_Exact_many⟩
theorem T_okNever (T : Txt K mg cs) : OkNever K cs.Never := ⟨T.cl_Never, T.na_Never_table⟩
theorem T_isK04 (T : Txt K mg cs) : IsK04 K cs := ⟨T_isi_Exact T, T_isi_Never T, T_kit_Exact_Answer T, T_kit_Exact_Exact T, T_kit_Exact_Never T, T_kit_Exact_Best T, T_kit_Exact_Around T, T_kit_Never_Answer T, T_kit_Never_Exact T, T_kit_Never_Never T, T_kit_Never_Best T, T_kit_Never_Around T⟩
theorem ok_is_there (T : Txt K mg cs) : FnOk P w K mg base CX0 1 T.f_is_there T.d_is_there (["first", "many", "length"] : List Str) (sp_is_there K cs) := by
  refine T.F_is_there.ok sc_is_there (fun vs H Q E h => len_is_there h) (fun cdv A outer s H vs Q E hr h => ⟨t_is_there K cs, ?_, pure_is_there  h⟩)
  have hu := hu_of hr
  exact (pss_one (ps_ret (pe_and (pe_cmpR op_geI (pv 0) pe_int (nomark _)) (pe_and (pe_cmpR op_geI (pv 1) pe_int (nomark _)) (pe_one (pe_cmpR op_leI (pe_op op_addI (pv 0) (pv 1)) (pv 2) (nomark _)))))))
theorem ok_Exact_shows (T : Txt K mg cs) : FnOk P w K mg base CX0 2 T.f_Exact_shows T.d_Exact_shows (["self", "row", "total"] : List Str) (sp_Exact_shows K cs) := by
  refine T.F_Exact_shows.ok sc_Exact_shows (fun vs H Q E h => len_Exact_shows h) (fun cdv A outer s H vs Q E hr h => ⟨t_Exact_shows K cs, ?_, pure_Exact_shows (T_okExact T) h⟩)
  have hu := hu_of hr
  exact (pss_cons (ps_if (pt_not (pt_val (pe_call (ok_is_there T) (hr.mono (by decide)) rfl T.g_is_there T.F_is_there.kp T.b_is_there .nil pass0 (pa_cons (pe_fld (pv 0) rfl) (pa_cons (pe_fld (pv 0) rfl) (pa_cons (pe_callB c_len (by rfl) T.n_len (by decide +kernel) (pa_cons (pv 1) pa_nil)) pa_nil)))))) (pss_one (ps_ret pe_bl)) pss_nil)
  (pss_one (ps_ret (pe_cmpR op_eq (pe_callB (cr_sum rfl) (by rfl) T.n_sum (by decide +kernel) (pa_cons (pe_slice sl_list (pv 1) (po_some (pe_fld (pv 0) rfl)) (po_some (pe_op op_addI (pe_fld (pv 0) rfl) (pe_fld (pv 0) rfl)))) pa_nil)) (pv 2) (nomark _)))))
theorem ok_summed (T : Txt K mg cs) : FnOk P w K mg base CX0 1 T.f_summed T.d_summed (["row"] : List Str) (sp_summed K cs) := by
  refine T.F_summed.ok sc_summed (fun vs H Q E h => len_summed h) (fun cdv A outer s H vs Q E hr h => ⟨t_summed K cs, ?_, pure_summed  h⟩)
  have hu := hu_of hr
  exact (pss_cons (ps_set (i := 1) sc_summed.nd rfl (Or.inl rfl) (pe_lst (pa_cons pe_int pa_nil)))
  (pss_cons (ps_for PassesOwn.never rfl (pi_list (pv 0)) (pg_name (i := 2) sc_summed.nd rfl (Or.inl rfl)) (pss_one (ps_expr (pe_bm PySem.F.plainAttrs_list PySem.F.slot_list_append PySem.F.type_list_append mt_append (pv 1) (pa_cons (pe_op op_addI (pe_ix ix_list (pv 1) (pe_un un_negI pe_int) (fun _ _ => rfl)) (pv 2)) pa_nil)))))
  (pss_one (ps_ret (pv 1)))))
theorem ok_Never_shows (T : Txt K mg cs) : FnOk P w K mg base CX0 2 T.f_Never_shows T.d_Never_shows (["self", "row", "total"] : List Str) (sp_Never_shows K cs) := by
  refine T.F_Never_shows.ok sc_Never_shows (fun vs H Q E h => len_Never_shows h) (fun cdv A outer s H vs Q E hr h => ⟨t_Never_shows K cs, ?_, pure_Never_shows (T_okNever T) h⟩)
  have hu := hu_of hr
  exact (pss_cons (ps_if (pt_val (pe_callB (cr_any rfl) (by rfl) T.n_any (by decide +kernel) (pa_cons (pe_lc (own := [("at", 8)]) rfl sc_Never_shows.nd (pi_range1 (by rfl) T.n_range (pa_cons (pe_op op_subI (pe_callB c_len (by rfl) T.n_len (by decide +kernel) (pa_cons (pe_fld (pv 0) rfl) pa_nil)) pe_int) pa_nil)) (blkOk_by (own := [("at", 8)]) (N := N_Never_shows) (sc := defScope s_Never_shows) (by decide +kernel)) (fun _ _ _ _ _ => (pg_name (i := 8) sc_Never_shows.nd rfl (Or.inl rfl))) (fun _ _ _ _ _ => pts_nil) (fun _ _ _ _ _ => (pe_cmpR op_geI (pe_ix ix_tup (pe_ix ix_list (pe_fld (pv 0) rfl) (pv 8) (fun _ _ => rfl)) pe_int (fun _ _ => rfl)) (pe_ix ix_tup (pe_ix ix_list (pe_fld (pv 0) rfl) (pe_op op_addI (pv 8) pe_int) (fun _ _ => rfl)) pe_int (fun _ _ => rfl)) (nomark _)))) pa_nil))) (pss_one (ps_ret pe_bl)) pss_nil)
  (pss_cons (ps_set (i := 3) sc_Never_shows.nd rfl (Or.inr rfl) pe_dnewK)
  (pss_cons (ps_set (i := 4) sc_Never_shows.nd rfl (Or.inr rfl) pe_dnewK)
  (pss_cons (ps_for PassesOwn.never rfl (pi_list (pe_fld (pv 0) rfl)) (pg_tup (by rfl) (pgs_cons (pg_name (i := 5) sc_Never_shows.nd rfl (Or.inl rfl)) (pgs_cons (pg_name (i := 6) sc_Never_shows.nd rfl (Or.inl rfl)) (pgs_cons (pg_name (i := 7) sc_Never_shows.nd rfl (Or.inl rfl)) pgs_nil)))) (pss_cons (ps_dput hu (pv 3) (pv 5) (pv 6) rfl)
  (pss_one (ps_dput hu (pv 4) (pv 5) (pv 7) rfl))))
  (pss_cons (ps_for PassesOwn.never rfl (pi_enum (by rfl) T.n_enumerate (pa_cons (pe_call (ok_summed T) (hr.mono (by decide)) rfl T.g_summed T.F_summed.kp T.b_summed .nil pass0 (pa_cons (pv 1) pa_nil)) pa_nil)) (pg_tup (by rfl) (pgs_cons (pg_name (i := 8) sc_Never_shows.nd rfl (Or.inl rfl)) (pgs_cons (pg_name (i := 5) sc_Never_shows.nd rfl (Or.inl rfl)) pgs_nil))) (pss_one (ps_if (PW.pt (pw_or (pt_cmp (pc_dnotin hu (pv 5) (pv 3))) (pw_or1 (pt_not (pt_chain op_leI op_leI (pe_dget hu (pv 3) (pv 5) (fun _ _ => rfl)) (pv 8) (pe_dget hu (pv 4) (pv 5) (fun _ _ => rfl))))))) (pss_one (ps_ret pe_bl)) pss_nil)))
  (pss_one (ps_ret (pe_not (pe_callB (cr_any rfl) (by rfl) T.n_any (by decide +kernel) (pa_cons (pe_lock (pe_lc (own := [("number", 5)]) rfl sc_Never_shows.nd (pi_keys (pv 3)) (blkOk_by (own := [("number", 5)]) (N := N_Never_shows) (sc := defScope s_Never_shows) (by decide +kernel)) (fun _ _ _ _ _ => (pg_name (i := 5) sc_Never_shows.nd rfl (Or.inl rfl))) (fun _ _ _ _ _ => pts_nil) (fun _ _ _ _ _ => (pe_and (pe_cmp (pc_din hu (pe_op op_addI (pv 5) (pv 2)) (pv 4))) (pe_one (pe_cmpR op_ltI (pe_dget hu (pv 3) (pv 5) (fun _ _ => rfl)) (pe_dget hu (pv 4) (pe_op op_addI (pv 5) (pv 2)) (fun _ _ => rfl)) (nomark _))))))) pa_nil))))))))))
theorem ok_l_sums (T : Txt K mg cs) : FnOk P w K mg base CX0 1 T.f_l_sums T.d_l_sums (["_law_row_here"] : List Str) (sp_l_sums K cs) := by
  refine T.F_l_sums.ok sc_l_sums (fun vs H Q E h => len_l_sums h) (fun cdv A outer s H vs Q E hr h => ⟨t_l_sums K cs, ?_, pure_l_sums  h⟩)
  have hu := hu_of hr
  exact (pss_cons (ps_set (i := 1) sc_l_sums.nd rfl (Or.inl rfl) (pe_lst (pa_cons pe_int pa_nil)))
  (pss_cons (ps_for PassesOwn.never rfl (pi_list (pv 0)) (pg_name (i := 2) sc_l_sums.nd rfl (Or.inl rfl)) (pss_one (ps_expr (pe_bm PySem.F.plainAttrs_list PySem.F.slot_list_append PySem.F.type_list_append mt_append (pv 1) (pa_cons (pe_op op_addI (pe_ix ix_list (pv 1) (pe_un un_negI pe_int) (fun _ _ => rfl)) (pv 2)) pa_nil)))))
  (pss_one (ps_ret (pv 1)))))
theorem ok_l_count (T : Txt K mg cs) : FnOk P w K mg base CX0 2 T.f_l_count T.d_l_count (["_law_row_here", "_law_total"] : List Str) (sp_l_count K cs) := by
  refine T.F_l_count.ok sc_l_count (fun vs H Q E h => len_l_count h) (fun cdv A outer s H vs Q E hr h => ⟨t_l_count K cs, ?_, pure_l_count  h⟩)
  have hu := hu_of hr
  exact (pss_cons (ps_set (i := 2) sc_l_count.nd rfl (Or.inr rfl) (pe_call (ok_l_sums T) (hr.mono (by decide)) rfl T.g_l_sums T.F_l_sums.kp T.b_l_sums .nil pass0 (pa_cons (pv 0) pa_nil)))
  (pss_cons (ps_set (i := 3) sc_l_count.nd rfl (Or.inl rfl) pe_int)
  (pss_cons (ps_for PassesOwn.never rfl (pi_range1 (by rfl) T.n_range (pa_cons (pe_callB c_len (by rfl) T.n_len (by decide +kernel) (pa_cons (pv 0) pa_nil)) pa_nil)) (pg_name (i := 4) sc_l_count.nd rfl (Or.inr rfl)) (pss_one (ps_set (i := 3) sc_l_count.nd rfl (Or.inl rfl) (pe_op op_addI (pv 3) (pe_callB c_len (by rfl) T.n_len (by decide +kernel) (pa_cons (pe_lc (own := [("_law_end", 5)]) rfl sc_l_count.nd (pi_range2 (by rfl) T.n_range (pa_cons (pe_op op_addI (pv 4) pe_int) (pa_cons (pe_op op_addI (pe_callB c_len (by rfl) T.n_len (by decide +kernel) (pa_cons (pv 0) pa_nil)) pe_int) pa_nil))) (blkOk_by (own := [("_law_end", 5)]) (N := N_l_count) (sc := defScope s_l_count) (by decide +kernel)) (fun _ _ _ _ _ => (pg_name (i := 5) sc_l_count.nd rfl (Or.inl rfl))) (fun _ _ _ _ _ => (pts_one (pt_cmpR op_eq (pe_op op_subI (pe_ix ix_list (pv 2) (pv 5) (fun _ _ => rfl)) (pe_ix ix_list (pv 2) (pv 4) (fun _ _ => rfl))) (pv 1) (nomark _)))) (fun _ _ _ _ _ => (pv 5))) pa_nil))))))
  (pss_one (ps_ret (pv 3))))))
theorem ok_l_numbers (T : Txt K mg cs) : FnOk P w K mg base CX0 1 T.f_l_numbers T.d_l_numbers (["_law_found"] : List Str) (sp_l_numbers K cs) := by
  refine T.F_l_numbers.ok sc_l_numbers (fun vs H Q E h => len_l_numbers h) (fun cdv A outer s H vs Q E hr h => ⟨t_l_numbers K cs, ?_, pure_l_numbers  h⟩)
  have hu := hu_of hr
  exact (pss_cons (ps_if (pt_not (pt_val (pe_callB call_isi (by rfl) T.n_isinstance (by decide +kernel) (pa_cons (pv 0) (pa_cons (pe_bltn (by rfl) T.n_list (by decide +kernel) rfl) pa_nil))))) (pss_one (ps_ret pe_bl)) pss_nil)
  (pss_one (ps_ret (pe_callB (cr_all rfl) (by rfl) T.n_all (by decide +kernel) (pa_cons (pe_lc (own := [("_law_one", 1)]) rfl sc_l_numbers.nd (pi_list (pv 0)) (blkOk_by (own := [("_law_one", 1)]) (N := N_l_numbers) (sc := defScope s_l_numbers) (by decide +kernel)) (fun _ _ _ _ _ => (pg_name (i := 1) sc_l_numbers.nd rfl (Or.inl rfl))) (fun _ _ _ _ _ => pts_nil) (fun _ _ _ _ _ => (pe_and (pe_callB call_isi (by rfl) T.n_isinstance (by decide +kernel) (pa_cons (pv 1) (pa_cons (pe_bltn (by rfl) T.n_int (by decide +kernel) rfl) pa_nil))) (pe_one (pe_not (pe_callB call_isi (by rfl) T.n_isinstance (by decide +kernel) (pa_cons (pv 1) (pa_cons (pe_bltn (by rfl) T.n_bool (by decide +kernel) rfl) pa_nil)))))))) pa_nil)))))
theorem ok_l_none_k04 (T : Txt K mg cs) : FnOk P w K mg base CX0 2 T.f_l_none_k04 T.d_l_none_k04 (["_law_row_here", "_law_total", "_law_table"] : List Str) (sp_l_none_k04 K cs) := by
  refine T.F_l_none_k04.ok sc_l_none_k04 (fun vs H Q E h => len_l_none_k04 h) (fun cdv A outer s H vs Q E hr h => ⟨t_l_none_k04 K cs, ?_, pure_l_none_k04  h⟩)
  have hu := hu_of hr
  exact (pss_cons (ps_set (i := 3) sc_l_none_k04.nd rfl (Or.inl rfl) pe_dnewK)
  (pss_cons (ps_set (i := 4) sc_l_none_k04.nd rfl (Or.inl rfl) pe_dnewK)
  (pss_cons (ps_for PassesOwn.never rfl (pi_enum (by rfl) T.n_enumerate (pa_cons (pv 2) pa_nil)) (pg_tup (by rfl) (pgs_cons (pg_name (i := 6) sc_l_none_k04.nd rfl (Or.inl rfl)) (pgs_cons (pg_name (i := 7) sc_l_none_k04.nd rfl (Or.inl rfl)) pgs_nil))) (pss_cons (ps_if (PW.pt (pw_or (pt_not (pt_val (pe_callB call_isi (by rfl) T.n_isinstance (by decide +kernel) (pa_cons (pv 7) (pa_cons (pe_bltn (by rfl) T.n_tuple (by decide +kernel) rfl) pa_nil))))) (pw_or (pt_cmpR op_ne (pe_callB c_len (by rfl) T.n_len (by decide +kernel) (pa_cons (pv 7) pa_nil)) pe_int (nomark _)) (pw_or1 (pt_not (pt_val (pe_call (ok_l_numbers T) (hr.mono (by decide)) rfl T.g_l_numbers T.F_l_numbers.kp T.b_l_numbers .nil pass0 (pa_cons (pe_callTy c_list (by rfl) T.n_list (by decide +kernel) (pa_cons (pv 7) pa_nil)) pa_nil)))))))) (pss_one (ps_ret pe_bl)) pss_nil)
  (pss_cons (ps_if (PW.pt (pw_and (pt_cmpR op_gtI (pv 6) pe_int (nomark _)) (pw_and1 (pt_cmpR op_geI (pe_ix ix_tup (pe_ix ix_list (pv 2) (pe_op op_subI (pv 6) pe_int) (fun _ _ => rfl)) pe_int (fun _ _ => rfl)) (pe_ix ix_tup (pv 7) pe_int (fun _ _ => rfl)) (nomark _))))) (pss_one (ps_ret pe_bl)) pss_nil)
  (pss_cons (ps_dput hu (pv 3) (pe_ix ix_tup (pv 7) pe_int (fun _ _ => rfl)) (pe_ix ix_tup (pv 7) pe_int (fun _ _ => rfl)) rfl)
  (pss_one (ps_dput hu (pv 4) (pe_ix ix_tup (pv 7) pe_int (fun _ _ => rfl)) (pe_ix ix_tup (pv 7) pe_int (fun _ _ => rfl)) rfl))))))
  (pss_cons (ps_for PassesOwn.never rfl (pi_enum (by rfl) T.n_enumerate (pa_cons (pe_call (ok_l_sums T) (hr.mono (by decide)) rfl T.g_l_sums T.F_l_sums.kp T.b_l_sums .nil pass0 (pa_cons (pv 0) pa_nil)) pa_nil)) (pg_tup (by rfl) (pgs_cons (pg_name (i := 6) sc_l_none_k04.nd rfl (Or.inl rfl)) (pgs_cons (pg_name (i := 8) sc_l_none_k04.nd rfl (Or.inl rfl)) pgs_nil))) (pss_one (ps_if (PW.pt (pw_or (pt_cmp (pc_dnotin hu (pv 8) (pv 3))) (pw_or1 (pt_not (pt_chain op_leI op_leI (pe_dget hu (pv 3) (pv 8) (fun _ _ => rfl)) (pv 6) (pe_dget hu (pv 4) (pv 8) (fun _ _ => rfl))))))) (pss_one (ps_ret pe_bl)) pss_nil)))
  (pss_cons (ps_lock (ps_for PassesOwn.never rfl (pi_keys (pv 3)) (pg_name (i := 5) sc_l_none_k04.nd rfl (Or.inl rfl)) (pss_one (ps_if (PW.pt (pw_and (pt_cmp (pc_din hu (pe_op op_addI (pv 5) (pv 1)) (pv 4))) (pw_and1 (pt_cmpR op_ltI (pe_dget hu (pv 3) (pv 5) (fun _ _ => rfl)) (pe_dget hu (pv 4) (pe_op op_addI (pv 5) (pv 1)) (fun _ _ => rfl)) (nomark _))))) (pss_one (ps_ret pe_bl)) pss_nil))))
  (pss_one (ps_ret pe_bl)))))))
theorem ok_l_right_k04 (T : Txt K mg cs) : FnOk P w K mg base CX0 3 T.f_l_right_k04 T.d_l_right_k04 (["_law_row_here", "_law_total", "_law_found"] : List Str) (sp_l_right_k04 K cs) := by
  refine T.F_l_right_k04.ok sc_l_right_k04 (fun vs H Q E h => len_l_right_k04 h) (fun cdv A outer s H vs Q E hr h => ⟨t_l_right_k04 K cs, ?_, pure_l_right_k04 (T_okExact T) (T_okNever T) (T_isK04 T) h⟩)
  have hu := hu_of hr
  exact (pss_cons (ps_if (PW.pt (pw_or (pt_not (pt_val (pe_callB call_isi (by rfl) T.n_isinstance (by decide +kernel) (pa_cons (pv 2) (pa_cons (pe_glob rfl T.g_Answer rfl) pa_nil))))) (pw_or1 (pt_cmpR op_eq (pe_callB call_isi (by rfl) T.n_isinstance (by decide +kernel) (pa_cons (pv 2) (pa_cons (pe_glob rfl T.g_Exact rfl) pa_nil))) (pe_callB call_isi (by rfl) T.n_isinstance (by decide +kernel) (pa_cons (pv 2) (pa_cons (pe_glob rfl T.g_Never rfl) pa_nil))) (nomark _))))) (pss_one (ps_ret pe_bl)) pss_nil)
  (pss_cons (ps_if (PW.pt (pw_or (pt_val (pe_callB call_isi (by rfl) T.n_isinstance (by decide +kernel) (pa_cons (pv 2) (pa_cons (pe_glob rfl T.g_Best rfl) pa_nil)))) (pw_or (pt_val (pe_callB call_isi (by rfl) T.n_isinstance (by decide +kernel) (pa_cons (pv 2) (pa_cons (pe_glob rfl T.g_Around rfl) pa_nil)))) (pw_or1 (pt_cmpR op_notBl (pe_alt (pe_meth (pv 2) T.cl_Exact T.me_Exact_shows (ok_Exact_shows T) (hr.mono (by decide)) T.b_Exact_shows .nil pass0 (pa_cons (pv 0) (pa_cons (pv 1) pa_nil))) (pe_meth (pv 2) T.cl_Never T.me_Never_shows (ok_Never_shows T) (hr.mono (by decide)) T.b_Never_shows .nil pass0 (pa_cons (pv 0) (pa_cons (pv 1) pa_nil)))) pe_bl (nomark _)))))) (pss_one (ps_ret pe_bl)) pss_nil)
  (pss_cons (ps_if (pt_val (pe_callB call_isi (by rfl) T.n_isinstance (by decide +kernel) (pa_cons (pv 2) (pa_cons (pe_glob rfl T.g_Never rfl) pa_nil)))) (pss_one (ps_ret (pe_and (pe_callB call_isi (by rfl) T.n_isinstance (by decide +kernel) (pa_cons (pe_fld (pv 2) rfl) (pa_cons (pe_bltn (by rfl) T.n_list (by decide +kernel) rfl) pa_nil))) (pe_one (pe_call (ok_l_none_k04 T) (hr.mono (by decide)) rfl T.g_l_none_k04 T.F_l_none_k04.kp T.b_l_none_k04 .nil pass0 (pa_cons (pv 0) (pa_cons (pv 1) (pa_cons (pe_fld (pv 2) rfl) pa_nil)))))))) pss_nil)
  (pss_cons (ps_if (PW.pt (pw_or (pt_not (pt_val (pe_call (ok_l_numbers T) (hr.mono (by decide)) rfl T.g_l_numbers T.F_l_numbers.kp T.b_l_numbers .nil pass0 (pa_cons (pe_lst (pa_cons (pe_fld (pv 2) rfl) (pa_cons (pe_fld (pv 2) rfl) pa_nil))) pa_nil)))) (pw_or (pt_cmpR op_ltI (pe_fld (pv 2) rfl) pe_int (nomark _)) (pw_or1 (pt_cmpR op_ltI (pe_fld (pv 2) rfl) pe_int (nomark _)))))) (pss_one (ps_ret pe_bl)) pss_nil)
  (pss_cons (ps_if (pt_cmpR op_gtI (pe_op op_addI (pe_fld (pv 2) rfl) (pe_fld (pv 2) rfl)) (pe_callB c_len (by rfl) T.n_len (by decide +kernel) (pa_cons (pv 0) pa_nil)) (nomark _)) (pss_one (ps_ret pe_bl)) pss_nil)
  (pss_one (ps_ret (pe_cmpR op_eq (pe_callB (cr_sum rfl) (by rfl) T.n_sum (by decide +kernel) (pa_cons (pe_slice sl_list (pv 0) (po_some (pe_fld (pv 2) rfl)) (po_some (pe_op op_addI (pe_fld (pv 2) rfl) (pe_fld (pv 2) rfl)))) pa_nil)) (pv 1) (nomark _)))))))))
theorem ok_l_row (T : Txt K mg cs) : FnOk P w K mg base CX0 1 T.f_l_row T.d_l_row (["_law_script"] : List Str) (sp_l_row K cs) := by
  refine T.F_l_row.ok sc_l_row (fun vs H Q E h => len_l_row h) (fun cdv A outer s H vs Q E hr h => ⟨t_l_row K cs, ?_, pure_l_row  h⟩)
  have hu := hu_of hr
  exact (pss_cons (ps_set (i := 1) sc_l_row.nd rfl (Or.inr rfl) (pe_ix ix_tup (pe_tup (pa_cons pe_int (pa_cons pe_int (pa_cons pe_int (pa_cons pe_int pa_nil))))) (pe_op op_modI (pe_callB (cr_sum rfl) (by rfl) T.n_sum (by decide +kernel) (pa_cons (pv 0) pa_nil)) pe_int) (fun _ _ => rfl)))
  (pss_one (ps_ret (pe_lc (own := [("_law_cell", 2)]) rfl sc_l_row.nd (pi_list (pv 0)) (blkOk_by (own := [("_law_cell", 2)]) (N := N_l_row) (sc := defScope s_l_row) (by decide +kernel)) (fun _ _ _ _ _ => (pg_name (i := 2) sc_l_row.nd rfl (Or.inl rfl))) (fun _ _ _ _ _ => pts_nil) (fun _ _ _ _ _ => (pe_op op_subI (pe_op op_modI (pv 2) (pe_op op_addI (pe_op op_mulI pe_int (pv 1)) pe_int)) (pv 1)))))))
theorem ok_Exact_init (T : Txt K mg cs) : FnOk P w K mg base CX0 1 T.f_Exact_init T.d_Exact_init (["self", "first", "many"] : List Str) (sp_Exact_init K cs) := by
  refine T.F_Exact_init.ok sc_Exact_init (fun vs H Q E h => len_Exact_init h) (fun cdv A outer s H vs Q E hr h => ⟨t_Exact_init K cs, ?_, pure_Exact_init (T_okExact T) h⟩)
  have hu := hu_of hr
  exact (pss_cons (ps_fld (pv 0) (pv 1) rfl)
  (pss_one (ps_fld (pv 0) (pv 2) rfl)))
theorem ok_Never_init (T : Txt K mg cs) : FnOk P w K mg base CX0 1 T.f_Never_init T.d_Never_init (["self", "table"] : List Str) (sp_Never_init K cs) := by
  refine T.F_Never_init.ok sc_Never_init (fun vs H Q E h => len_Never_init h) (fun cdv A outer s H vs Q E hr h => ⟨t_Never_init K cs, ?_, pure_Never_init (T_okNever T) h⟩)
  have hu := hu_of hr
  exact (pss_one (ps_fld (pv 0) (pe_callTy c_list (by rfl) T.n_list (by decide +kernel) (pa_cons (pv 1) pa_nil)) rfl))
theorem ok_is_number (T : Txt K mg cs) : FnOk P w K mg base CX0 1 T.f_is_number T.d_is_number (["thing"] : List Str) (sp_is_number K cs) := by
  refine T.F_is_number.ok sc_is_number (fun vs H Q E h => len_is_number h) (fun cdv A outer s H vs Q E hr h => ⟨t_is_number K cs, ?_, pure_is_number  h⟩)
  have hu := hu_of hr
  exact (pss_one (ps_ret (pe_and (pe_callB call_isi (by rfl) T.n_isinstance (by decide +kernel) (pa_cons (pv 0) (pa_cons (pe_bltn (by rfl) T.n_int (by decide +kernel) rfl) pa_nil))) (pe_one (pe_not (pe_callB call_isi (by rfl) T.n_isinstance (by decide +kernel) (pa_cons (pv 0) (pa_cons (pe_bltn (by rfl) T.n_bool (by decide +kernel) rfl) pa_nil))))))))
theorem ok_asked_row (T : Txt K mg cs) : FnOk P w K mg base CX0 2 T.f_asked_row T.d_asked_row (["row"] : List Str) (sp_asked_row K cs) := by
  refine T.F_asked_row.ok sc_asked_row (fun vs H Q E h => len_asked_row h) (fun cdv A outer s H vs Q E hr h => ⟨t_asked_row K cs, ?_, pure_asked_row  h⟩)
  have hu := hu_of hr
  exact (pss_one (ps_if (PW.pt (pw_or (pt_not (pt_val (pe_callB call_isi (by rfl) T.n_isinstance (by decide +kernel) (pa_cons (pv 0) (pa_cons (pe_bltn (by rfl) T.n_list (by decide +kernel) rfl) pa_nil))))) (pw_or1 (pt_not (pt_val (pe_callB (cr_all rfl) (by rfl) T.n_all (by decide +kernel) (pa_cons (pe_lc (own := [("one", 1)]) rfl sc_asked_row.nd (pi_list (pv 0)) (blkOk_by (own := [("one", 1)]) (N := N_asked_row) (sc := defScope s_asked_row) (by decide +kernel)) (fun _ _ _ _ _ => (pg_name (i := 1) sc_asked_row.nd rfl (Or.inl rfl))) (fun _ _ _ _ _ => pts_nil) (fun _ _ _ _ _ => (pe_and (pe_call (ok_is_number T) (hr.mono (by decide)) rfl T.g_is_number T.F_is_number.kp T.b_is_number .nil pass0 (pa_cons (pv 1) pa_nil)) (pe_one (pe_chain op_leI op_leI (pe_un un_negI (pe_glob rfl T.g_FARTHEST ⟨_, rfl⟩)) (pv 1) (pe_glob rfl T.g_FARTHEST ⟨_, rfl⟩)))))) pa_nil))))))) (pss_one ps_never) pss_nil))
theorem ok_asked_total (T : Txt K mg cs) : FnOk P w K mg base CX0 2 T.f_asked_total T.d_asked_total (["total"] : List Str) (sp_asked_total K cs) := by
  refine T.F_asked_total.ok sc_asked_total (fun vs H Q E h => len_asked_total h) (fun cdv A outer s H vs Q E hr h => ⟨t_asked_total K cs, ?_, pure_asked_total  h⟩)
  have hu := hu_of hr
  exact (pss_one (ps_if (pt_not (pt_val (pe_call (ok_is_number T) (hr.mono (by decide)) rfl T.g_is_number T.F_is_number.kp T.b_is_number .nil pass0 (pa_cons (pv 0) pa_nil)))) (pss_one ps_never) pss_nil))
theorem ok_exact (T : Txt K mg cs) : FnOk P w K mg base CX0 3 T.f_exact T.d_exact (["row", "total"] : List Str) (sp_exact K cs) := by
  refine T.F_exact.ok sc_exact (fun vs H Q E h => len_exact h) (fun cdv A outer s H vs Q E hr h => ⟨t_exact K cs, ?_, pure_exact  h⟩)
  have hu := hu_of hr
  exact (pss_cons (ps_expr (pe_call (ok_asked_row T) (hr.mono (by decide)) rfl T.g_asked_row T.F_asked_row.kp T.b_asked_row .nil pass0 (pa_cons (pv 0) pa_nil)))
  (pss_cons (ps_expr (pe_call (ok_asked_total T) (hr.mono (by decide)) rfl T.g_asked_total T.F_asked_total.kp T.b_asked_total .nil pass0 (pa_cons (pv 1) pa_nil)))
  (pss_cons (ps_set (i := 2) sc_exact.nd rfl (Or.inr rfl) pe_dnewK)
  (pss_cons (ps_set (i := 3) sc_exact.nd rfl (Or.inr rfl) pe_dnewK)
  (pss_cons (ps_for PassesOwn.never rfl (pi_enum (by rfl) T.n_enumerate (pa_cons (pe_call (ok_summed T) (hr.mono (by decide)) rfl T.g_summed T.F_summed.kp T.b_summed .nil pass0 (pa_cons (pv 0) pa_nil)) pa_nil)) (pg_tup (by rfl) (pgs_cons (pg_name (i := 4) sc_exact.nd rfl (Or.inl rfl)) (pgs_cons (pg_name (i := 5) sc_exact.nd rfl (Or.inl rfl)) pgs_nil))) (pss_cons (ps_if (pt_cmp (pc_din hu (pe_op op_subI (pv 5) (pv 1)) (pv 2))) (pss_one (ps_ret (pe_make T.mk_Exact (ok_Exact_init T) (hr.mono (by decide)) rfl T.g_Exact T.b_Exact_init .nil pass0 (pa_cons (pe_dget hu (pv 2) (pe_op op_subI (pv 5) (pv 1)) (fun _ _ => rfl)) (pa_cons (pe_op op_subI (pv 4) (pe_dget hu (pv 2) (pe_op op_subI (pv 5) (pv 1)) (fun _ _ => rfl))) pa_nil))))) pss_nil)
  (pss_cons (ps_if (pt_cmp (pc_dnotin hu (pv 5) (pv 2))) (pss_one (ps_dput hu (pv 2) (pv 5) (pv 4) rfl)) pss_nil)
  (pss_one (ps_dput hu (pv 3) (pv 5) (pv 4) rfl)))))
  (pss_one (ps_ret (pe_make T.mk_Never (ok_Never_init T) (hr.mono (by decide)) rfl T.g_Never T.b_Never_init .nil pass0 (pa_cons (pe_lc (own := [("number", 5)]) rfl sc_exact.nd (pi_list (pe_callB (c_sortedD rfl) (by rfl) T.n_sorted (by decide +kernel) (pa_cons (pv 2) pa_nil))) (blkOk_by (own := [("number", 5)]) (N := N_exact) (sc := defScope s_exact) (by decide +kernel)) (fun _ _ _ _ _ => (pg_name (i := 5) sc_exact.nd rfl (Or.inl rfl))) (fun _ _ _ _ _ => pts_nil) (fun _ _ _ _ _ => (pe_tup (pa_cons (pv 5) (pa_cons (pe_dget hu (pv 2) (pv 5) (fun _ _ => rfl)) (pa_cons (pe_dget hu (pv 3) (pv 5) (fun _ _ => rfl)) pa_nil)))))) pa_nil)))))))))
theorem ok_how_many (T : Txt K mg cs) : FnOk P w K mg base CX0 3 T.f_how_many T.d_how_many (["row", "total"] : List Str) (sp_how_many K cs) := by
  refine T.F_how_many.ok sc_how_many (fun vs H Q E h => len_how_many h) (fun cdv A outer s H vs Q E hr h => ⟨t_how_many K cs, ?_, pure_how_many  h⟩)
  have hu := hu_of hr
  exact (pss_cons (ps_expr (pe_call (ok_asked_row T) (hr.mono (by decide)) rfl T.g_asked_row T.F_asked_row.kp T.b_asked_row .nil pass0 (pa_cons (pv 0) pa_nil)))
  (pss_cons (ps_expr (pe_call (ok_asked_total T) (hr.mono (by decide)) rfl T.g_asked_total T.F_asked_total.kp T.b_asked_total .nil pass0 (pa_cons (pv 1) pa_nil)))
  (pss_cons (ps_set (i := 2) sc_how_many.nd rfl (Or.inl rfl) pe_dnewK)
  (pss_cons (ps_set (i := 3) sc_how_many.nd rfl (Or.inl rfl) pe_int)
  (pss_cons (ps_for PassesOwn.never rfl (pi_list (pe_call (ok_summed T) (hr.mono (by decide)) rfl T.g_summed T.F_summed.kp T.b_summed .nil pass0 (pa_cons (pv 0) pa_nil))) (pg_name (i := 4) sc_how_many.nd rfl (Or.inl rfl)) (pss_cons (ps_set (i := 3) sc_how_many.nd rfl (Or.inl rfl) (pe_op op_addI (pv 3) (pe_dget2 hu (pv 2) (pe_op op_subI (pv 4) (pv 1)) pe_int ⟨by rfl, by rfl, by rfl, by rfl⟩)))
  (pss_one (ps_dput hu (pv 2) (pv 4) (pe_op op_addI (pe_dget2 hu (pv 2) (pv 4) pe_int ⟨by rfl, by rfl, by rfl, by rfl⟩) pe_int) rfl))))
  (pss_one (ps_ret (pv 3))))))))
theorem ok_law_k04 (T : Txt K mg cs) : FnOk P w K mg base CX0 4 T.f_law_k04 T.d_law_k04 (["_law_script"] : List Str) (sp_law_k04 K cs) := by
  refine T.F_law_k04.ok sc_law_k04 (fun vs H Q E h => len_law_k04 h) (fun cdv A outer s H vs Q E hr h => ⟨t_law_k04 K cs, ?_, pure_law_k04 (T_okExact T) (T_okNever T) (T_isK04 T) h⟩)
  have hu := hu_of hr
  exact (pss_cons (ps_set (i := 1) sc_law_k04.nd rfl (Or.inl rfl) (pe_call (ok_l_row T) (hr.mono (by decide)) rfl T.g_l_row T.F_l_row.kp T.b_l_row .nil pass0 (pa_cons (pv 0) pa_nil)))
  (pss_cons (ps_set (i := 2) sc_law_k04.nd rfl (Or.inl rfl) (pe_callTy c_list (by rfl) T.n_list (by decide +kernel) (pa_cons (pv 1) pa_nil)))
  (pss_cons (ps_set (i := 3) sc_law_k04.nd rfl (Or.inl rfl) (pe_callB (cr_sum rfl) (by rfl) T.n_sum (by decide +kernel) (pa_cons (pv 0) pa_nil)))
  (pss_cons (ps_set (i := 4) sc_law_k04.nd rfl (Or.inl rfl) (pe_op op_modI (pe_op op_divI (pv 3) pe_int) (pe_op op_addI (pe_callB c_len (by rfl) T.n_len (by decide +kernel) (pa_cons (pv 1) pa_nil)) pe_int)))
  (pss_cons (ps_set (i := 5) sc_law_k04.nd rfl (Or.inl rfl) (pe_callB (cr_sum rfl) (by rfl) T.n_sum (by decide +kernel) (pa_cons (pe_slice sl_list (pv 1) (po_some (pv 4)) (po_some (pe_op op_addI (pe_op op_addI (pv 4) pe_int) (pe_op op_modI (pe_op op_divI (pv 3) pe_int) (pe_op op_addI (pe_callB c_len (by rfl) T.n_len (by decide +kernel) (pa_cons (pv 1) pa_nil)) pe_int))))) pa_nil)))
  (pss_cons (ps_for PassesOwn.never rfl (pi_list (pe_lst (pa_cons pe_int (pa_cons (pv 5) (pa_cons (pe_op op_addI (pv 5) pe_int) (pa_cons (pe_op op_subI (pe_op op_modI (pv 3) pe_int) pe_int) (pa_cons (pv 5) pa_nil))))))) (pg_name (i := 6) sc_law_k04.nd rfl (Or.inl rfl)) (pss_cons (ps_set (i := 7) sc_law_k04.nd rfl (Or.inl rfl) (pe_call (ok_exact T) (hr.mono (by decide)) rfl T.g_exact T.F_exact.kp T.b_exact .nil pass0 (pa_cons (pv 2) (pa_cons (pv 6) pa_nil))))
  (pss_cons (ps_if (PW.pt (pw_or (pt_not (pt_val (pe_call (ok_l_right_k04 T) (hr.mono (by decide)) rfl T.g_l_right_k04 T.F_l_right_k04.kp T.b_l_right_k04 .nil pass0 (pa_cons (pv 1) (pa_cons (pv 6) (pa_cons (pv 7) pa_nil)))))) (pw_or1 (pt_cmpR (op_neD hr.units) (pv 2) (pv 1) (nomark _))))) (pss_one (ps_ret pe_bl)) pss_nil)
  (pss_cons (ps_set (i := 8) sc_law_k04.nd rfl (Or.inl rfl) (pe_call (ok_how_many T) (hr.mono (by decide)) rfl T.g_how_many T.F_how_many.kp T.b_how_many .nil pass0 (pa_cons (pv 2) (pa_cons (pv 6) pa_nil))))
  (pss_cons (ps_if (PW.pt (pw_or (pt_not (pt_val (pe_call (ok_l_numbers T) (hr.mono (by decide)) rfl T.g_l_numbers T.F_l_numbers.kp T.b_l_numbers .nil pass0 (pa_cons (pe_lst (pa_cons (pv 8) pa_nil)) pa_nil)))) (pw_or (pt_cmpR op_ne (pv 8) (pe_call (ok_l_count T) (hr.mono (by decide)) rfl T.g_l_count T.F_l_count.kp T.b_l_count .nil pass0 (pa_cons (pv 1) (pa_cons (pv 6) pa_nil))) (nomark _)) (pw_or1 (pt_cmpR op_ne (pe_cmpR op_gtI (pv 8) pe_int (nomark _)) (pe_callB call_isi (by rfl) T.n_isinstance (by decide +kernel) (pa_cons (pv 7) (pa_cons (pe_glob rfl T.g_Exact rfl) pa_nil))) (nomark _)))))) (pss_one (ps_ret pe_bl)) pss_nil)
  (pss_one (ps_if (pt_val (pe_callB call_isi (by rfl) T.n_isinstance (by decide +kernel) (pa_cons (pv 7) (pa_cons (pe_glob rfl T.g_Never rfl) pa_nil)))) (pss_cons (ps_for PassesOwn.never rfl (pi_list (pe_lst (pa_cons (pe_revL (pv 1)) (pa_cons (pe_op op_cat (pv 1) (pe_lst (pa_cons pe_int pa_nil))) pa_nil)))) (pg_name (i := 5) sc_law_k04.nd rfl (Or.inl rfl)) (pss_one (ps_if (pt_cmpR op_ne (pe_alt (pe_meth (pv 7) T.cl_Exact T.me_Exact_shows (ok_Exact_shows T) (hr.mono (by decide)) T.b_Exact_shows .nil pass0 (pa_cons (pv 5) (pa_cons (pv 6) pa_nil))) (pe_meth (pv 7) T.cl_Never T.me_Never_shows (ok_Never_shows T) (hr.mono (by decide)) T.b_Never_shows .nil pass0 (pa_cons (pv 5) (pa_cons (pv 6) pa_nil)))) (pe_call (ok_l_none_k04 T) (hr.mono (by decide)) rfl T.g_l_none_k04 T.F_l_none_k04.kp T.b_l_none_k04 .nil pass0 (pa_cons (pv 5) (pa_cons (pv 6) (pa_cons (pe_fld (pv 7) rfl) pa_nil)))) (nomark _)) (pss_one (ps_ret pe_bl)) pss_nil)))
  (pss_cons (ps_expr (pe_bm PySem.F.plainAttrs_list PySem.F.slot_list_append PySem.F.type_list_append mt_append (pe_fld (pv 7) rfl) (pa_cons (pe_tup (pa_cons (pe_op op_subI (pe_ix ix_tup (pe_ix ix_list (pe_fld (pv 7) rfl) (pe_un un_negI pe_int) (fun _ _ => rfl)) pe_int (fun _ _ => rfl)) pe_int) (pa_cons pe_int (pa_cons pe_int pa_nil)))) pa_nil)))
  (pss_one (ps_if (pt_cmpR op_notBl (pe_alt (pe_meth (pv 7) T.cl_Exact T.me_Exact_shows (ok_Exact_shows T) (hr.mono (by decide)) T.b_Exact_shows .nil pass0 (pa_cons (pv 1) (pa_cons (pv 6) pa_nil))) (pe_meth (pv 7) T.cl_Never T.me_Never_shows (ok_Never_shows T) (hr.mono (by decide)) T.b_Never_shows .nil pass0 (pa_cons (pv 1) (pa_cons (pv 6) pa_nil)))) pe_bl (nomark _)) (pss_one (ps_ret pe_bl)) pss_nil)))) pss_nil)))))))
  (pss_one (ps_ret (pe_cmpR (op_eqD hr.units) (pv 2) (pv 1) (nomark _))))))))))
end
def txt_mk {K : PySem.W.Frag} {h : Heap} {mg : Str → Option Value} (X : K.In h) (G : h.Ns mainGlobals mg)
    {tk_FARTHEST : Tok}
    {C_Answer : Addr}
    {C_Around : Addr}
    {C_Best : Addr}
    {C_Exact : Addr}
    {C_Never : Addr}
    {f_is_there : Addr} {od_is_there an_is_there : Option Addr} {sl_is_there : Array (Option Value)} {oc_is_there kV_is_there dc_is_there pm_is_there cd_is_there ct_is_there : Value}
    {f_Exact_shows : Addr} {od_Exact_shows an_Exact_shows : Option Addr} {sl_Exact_shows : Array (Option Value)} {oc_Exact_shows kV_Exact_shows dc_Exact_shows pm_Exact_shows cd_Exact_shows ct_Exact_shows : Value}
    {f_summed : Addr} {od_summed an_summed : Option Addr} {sl_summed : Array (Option Value)} {oc_summed kV_summed dc_summed pm_summed cd_summed ct_summed : Value}
    {f_Never_shows : Addr} {od_Never_shows an_Never_shows : Option Addr} {sl_Never_shows : Array (Option Value)} {oc_Never_shows kV_Never_shows dc_Never_shows pm_Never_shows cd_Never_shows ct_Never_shows : Value}
    {f_l_sums : Addr} {od_l_sums an_l_sums : Option Addr} {sl_l_sums : Array (Option Value)} {oc_l_sums kV_l_sums dc_l_sums pm_l_sums cd_l_sums ct_l_sums : Value}
    {f_l_count : Addr} {od_l_count an_l_count : Option Addr} {sl_l_count : Array (Option Value)} {oc_l_count kV_l_count dc_l_count pm_l_count cd_l_count ct_l_count : Value}
    {f_l_numbers : Addr} {od_l_numbers an_l_numbers : Option Addr} {sl_l_numbers : Array (Option Value)} {oc_l_numbers kV_l_numbers dc_l_numbers pm_l_numbers cd_l_numbers ct_l_numbers : Value}
    {f_l_none_k04 : Addr} {od_l_none_k04 an_l_none_k04 : Option Addr} {sl_l_none_k04 : Array (Option Value)} {oc_l_none_k04 kV_l_none_k04 dc_l_none_k04 pm_l_none_k04 cd_l_none_k04 ct_l_none_k04 : Value}
    {f_l_right_k04 : Addr} {od_l_right_k04 an_l_right_k04 : Option Addr} {sl_l_right_k04 : Array (Option Value)} {oc_l_right_k04 kV_l_right_k04 dc_l_right_k04 pm_l_right_k04 cd_l_right_k04 ct_l_right_k04 : Value}
    {f_l_row : Addr} {od_l_row an_l_row : Option Addr} {sl_l_row : Array (Option Value)} {oc_l_row kV_l_row dc_l_row pm_l_row cd_l_row ct_l_row : Value}
    {f_Exact_init : Addr} {od_Exact_init an_Exact_init : Option Addr} {sl_Exact_init : Array (Option Value)} {oc_Exact_init kV_Exact_init dc_Exact_init pm_Exact_init cd_Exact_init ct_Exact_init : Value}
    {f_Never_init : Addr} {od_Never_init an_Never_init : Option Addr} {sl_Never_init : Array (Option Value)} {oc_Never_init kV_Never_init dc_Never_init pm_Never_init cd_Never_init ct_Never_init : Value}
    {f_is_number : Addr} {od_is_number an_is_number : Option Addr} {sl_is_number : Array (Option Value)} {oc_is_number kV_is_number dc_is_number pm_is_number cd_is_number ct_is_number : Value}
    {f_asked_row : Addr} {od_asked_row an_asked_row : Option Addr} {sl_asked_row : Array (Option Value)} {oc_asked_row kV_asked_row dc_asked_row pm_asked_row cd_asked_row ct_asked_row : Value}
    {f_asked_total : Addr} {od_asked_total an_asked_total : Option Addr} {sl_asked_total : Array (Option Value)} {oc_asked_total kV_asked_total dc_asked_total pm_asked_total cd_asked_total ct_asked_total : Value}
    {f_exact : Addr} {od_exact an_exact : Option Addr} {sl_exact : Array (Option Value)} {oc_exact kV_exact dc_exact pm_exact cd_exact ct_exact : Value}
    {f_how_many : Addr} {od_how_many an_how_many : Option Addr} {sl_how_many : Array (Option Value)} {oc_how_many kV_how_many dc_how_many pm_how_many cd_how_many ct_how_many : Value}
    {f_law_k04 : Addr} {od_law_k04 an_law_k04 : Option Addr} {sl_law_k04 : Array (Option Value)} {oc_law_k04 kV_law_k04 dc_law_k04 pm_law_k04 cd_law_k04 ct_law_k04 : Value}
    (z_all : PySem.W.nsIn K mainGlobals "all" = some none)
    (z_any : PySem.W.nsIn K mainGlobals "any" = some none)
    (z_bool : PySem.W.nsIn K mainGlobals "bool" = some none)
    (z_enumerate : PySem.W.nsIn K mainGlobals "enumerate" = some none)
    (z_int : PySem.W.nsIn K mainGlobals "int" = some none)
    (z_isinstance : PySem.W.nsIn K mainGlobals "isinstance" = some none)
    (z_len : PySem.W.nsIn K mainGlobals "len" = some none)
    (z_list : PySem.W.nsIn K mainGlobals "list" = some none)
    (z_range : PySem.W.nsIn K mainGlobals "range" = some none)
    (z_sorted : PySem.W.nsIn K mainGlobals "sorted" = some none)
    (z_sum : PySem.W.nsIn K mainGlobals "sum" = some none)
    (z_tuple : PySem.W.nsIn K mainGlobals "tuple" = some none)
    (c_FARTHEST : PySem.W.nsIn K mainGlobals "FARTHEST" = some (some (.int 1000000 tk_FARTHEST)))
    (a_Answer : PySem.W.nsIn K mainGlobals "Answer" = some (some (.ref C_Answer)))
    (a_Around : PySem.W.nsIn K mainGlobals "Around" = some (some (.ref C_Around)))
    (a_Best : PySem.W.nsIn K mainGlobals "Best" = some (some (.ref C_Best)))
    (a_Exact : PySem.W.nsIn K mainGlobals "Exact" = some (some (.ref C_Exact)))
    (a_Never : PySem.W.nsIn K mainGlobals "Never" = some (some (.ref C_Never)))
    (pg_Exact : PySem.W.plainGet K C_Exact Str.empty = true)
    (hd_Exact : PySem.W.hasDictIn K C_Exact = true)
    (po_Exact : PySem.W.plainOver K C_Exact = true)
    (sa_Exact : PySem.W.findIn K (.ref C_Exact) "__setattr__" = some (some (.builtin "object.__setattr__")))
    (pg_Never : PySem.W.plainGet K C_Never Str.empty = true)
    (hd_Never : PySem.W.hasDictIn K C_Never = true)
    (po_Never : PySem.W.plainOver K C_Never = true)
    (sa_Never : PySem.W.findIn K (.ref C_Never) "__setattr__" = some (some (.builtin "object.__setattr__")))
    (na_Exact_first : PySem.W.findIn K (.ref C_Exact) "first" = some none)
    (na_Exact_many : PySem.W.findIn K (.ref C_Exact) "many" = some none)
    (na_Exact_table : PySem.W.findIn K (.ref C_Exact) "table" = some none)
    (na_Never_first : PySem.W.findIn K (.ref C_Never) "first" = some none)
    (na_Never_many : PySem.W.findIn K (.ref C_Never) "many" = some none)
    (na_Never_table : PySem.W.findIn K (.ref C_Never) "table" = some none)
    (a_is_there : PySem.W.nsIn K mainGlobals "is_there" = some (some (.ref f_is_there)))
    (l_is_there : K.lookup f_is_there = some ⟨oc_is_there, od_is_there, .func (PySem.W.fnOf "is_there" "is_there" (defArgs s_is_there) (defBody s_is_there) (defScope s_is_there) .none kV_is_there dc_is_there pm_is_there an_is_there cd_is_there ct_is_there), sl_is_there⟩)
    (c_is_there : PySem.W.codeIn K cd_is_there "is_there" = true)
    (k_is_there : PySem.W.keepIn K (.ref f_is_there) = true)
    (a_Exact_shows : PySem.W.findIn K (.ref C_Exact) "shows" = some (some (.ref f_Exact_shows)))
    (i_Exact_shows : PySem.W.isFn K (.ref f_Exact_shows) = true)
    (l_Exact_shows : K.lookup f_Exact_shows = some ⟨oc_Exact_shows, od_Exact_shows, .func (PySem.W.fnOf "shows" "Exact.shows" (defArgs s_Exact_shows) (defBody s_Exact_shows) (defScope s_Exact_shows) .none kV_Exact_shows dc_Exact_shows pm_Exact_shows an_Exact_shows cd_Exact_shows ct_Exact_shows), sl_Exact_shows⟩)
    (c_Exact_shows : PySem.W.codeIn K cd_Exact_shows "Exact.shows" = true)
    (k_Exact_shows : PySem.W.keepIn K (.ref f_Exact_shows) = true)
    (a_summed : PySem.W.nsIn K mainGlobals "summed" = some (some (.ref f_summed)))
    (l_summed : K.lookup f_summed = some ⟨oc_summed, od_summed, .func (PySem.W.fnOf "summed" "summed" (defArgs s_summed) (defBody s_summed) (defScope s_summed) .none kV_summed dc_summed pm_summed an_summed cd_summed ct_summed), sl_summed⟩)
    (c_summed : PySem.W.codeIn K cd_summed "summed" = true)
    (k_summed : PySem.W.keepIn K (.ref f_summed) = true)
    (a_Never_shows : PySem.W.findIn K (.ref C_Never) "shows" = some (some (.ref f_Never_shows)))
    (i_Never_shows : PySem.W.isFn K (.ref f_Never_shows) = true)
    (l_Never_shows : K.lookup f_Never_shows = some ⟨oc_Never_shows, od_Never_shows, .func (PySem.W.fnOf "shows" "Never.shows" (defArgs s_Never_shows) (defBody s_Never_shows) (defScope s_Never_shows) .none kV_Never_shows dc_Never_shows pm_Never_shows an_Never_shows cd_Never_shows ct_Never_shows), sl_Never_shows⟩)
    (c_Never_shows : PySem.W.codeIn K cd_Never_shows "Never.shows" = true)
    (k_Never_shows : PySem.W.keepIn K (.ref f_Never_shows) = true)
    (a_l_sums : PySem.W.nsIn K mainGlobals "_law_sums" = some (some (.ref f_l_sums)))
    (l_l_sums : K.lookup f_l_sums = some ⟨oc_l_sums, od_l_sums, .func (PySem.W.fnOf "_law_sums" "_law_sums" (defArgs s_l_sums) (defBody s_l_sums) (defScope s_l_sums) .none kV_l_sums dc_l_sums pm_l_sums an_l_sums cd_l_sums ct_l_sums), sl_l_sums⟩)
    (c_l_sums : PySem.W.codeIn K cd_l_sums "_law_sums" = true)
    (k_l_sums : PySem.W.keepIn K (.ref f_l_sums) = true)
    (a_l_count : PySem.W.nsIn K mainGlobals "_law_count" = some (some (.ref f_l_count)))
    (l_l_count : K.lookup f_l_count = some ⟨oc_l_count, od_l_count, .func (PySem.W.fnOf "_law_count" "_law_count" (defArgs s_l_count) (defBody s_l_count) (defScope s_l_count) .none kV_l_count dc_l_count pm_l_count an_l_count cd_l_count ct_l_count), sl_l_count⟩)
    (c_l_count : PySem.W.codeIn K cd_l_count "_law_count" = true)
    (k_l_count : PySem.W.keepIn K (.ref f_l_count) = true)
    (a_l_numbers : PySem.W.nsIn K mainGlobals "_law_numbers" = some (some (.ref f_l_numbers)))
    (l_l_numbers : K.lookup f_l_numbers = some ⟨oc_l_numbers, od_l_numbers, .func (PySem.W.fnOf "_law_numbers" "_law_numbers" (defArgs s_l_numbers) (defBody s_l_numbers) (defScope s_l_numbers) .none kV_l_numbers dc_l_numbers pm_l_numbers an_l_numbers cd_l_numbers ct_l_numbers), sl_l_numbers⟩)
    (c_l_numbers : PySem.W.codeIn K cd_l_numbers "_law_numbers" = true)
    (k_l_numbers : PySem.W.keepIn K (.ref f_l_numbers) = true)
    (a_l_none_k04 : PySem.W.nsIn K mainGlobals "_law_none" = some (some (.ref f_l_none_k04)))
    (l_l_none_k04 : K.lookup f_l_none_k04 = some ⟨oc_l_none_k04, od_l_none_k04, .func (PySem.W.fnOf "_law_none" "_law_none" (defArgs s_l_none_k04) (defBody s_l_none_k04) (defScope s_l_none_k04) .none kV_l_none_k04 dc_l_none_k04 pm_l_none_k04 an_l_none_k04 cd_l_none_k04 ct_l_none_k04), sl_l_none_k04⟩)
    (c_l_none_k04 : PySem.W.codeIn K cd_l_none_k04 "_law_none" = true)
    (k_l_none_k04 : PySem.W.keepIn K (.ref f_l_none_k04) = true)
    (a_l_right_k04 : PySem.W.nsIn K mainGlobals "_law_right" = some (some (.ref f_l_right_k04)))
    (l_l_right_k04 : K.lookup f_l_right_k04 = some ⟨oc_l_right_k04, od_l_right_k04, .func (PySem.W.fnOf "_law_right" "_law_right" (defArgs s_l_right_k04) (defBody s_l_right_k04) (defScope s_l_right_k04) .none kV_l_right_k04 dc_l_right_k04 pm_l_right_k04 an_l_right_k04 cd_l_right_k04 ct_l_right_k04), sl_l_right_k04⟩)
    (c_l_right_k04 : PySem.W.codeIn K cd_l_right_k04 "_law_right" = true)
    (k_l_right_k04 : PySem.W.keepIn K (.ref f_l_right_k04) = true)
    (a_l_row : PySem.W.nsIn K mainGlobals "_law_row" = some (some (.ref f_l_row)))
    (l_l_row : K.lookup f_l_row = some ⟨oc_l_row, od_l_row, .func (PySem.W.fnOf "_law_row" "_law_row" (defArgs s_l_row) (defBody s_l_row) (defScope s_l_row) .none kV_l_row dc_l_row pm_l_row an_l_row cd_l_row ct_l_row), sl_l_row⟩)
    (c_l_row : PySem.W.codeIn K cd_l_row "_law_row" = true)
    (k_l_row : PySem.W.keepIn K (.ref f_l_row) = true)
    (a_Exact_init : PySem.W.findIn K (.ref C_Exact) "__init__" = some (some (.ref f_Exact_init)))
    (i_Exact_init : PySem.W.isFn K (.ref f_Exact_init) = true)
    (l_Exact_init : K.lookup f_Exact_init = some ⟨oc_Exact_init, od_Exact_init, .func (PySem.W.fnOf "__init__" "Exact.__init__" (defArgs s_Exact_init) (defBody s_Exact_init) (defScope s_Exact_init) .none kV_Exact_init dc_Exact_init pm_Exact_init an_Exact_init cd_Exact_init ct_Exact_init), sl_Exact_init⟩)
    (c_Exact_init : PySem.W.codeIn K cd_Exact_init "Exact.__init__" = true)
    (k_Exact_init : PySem.W.keepIn K (.ref f_Exact_init) = true)
    (a_Never_init : PySem.W.findIn K (.ref C_Never) "__init__" = some (some (.ref f_Never_init)))
    (i_Never_init : PySem.W.isFn K (.ref f_Never_init) = true)
    (l_Never_init : K.lookup f_Never_init = some ⟨oc_Never_init, od_Never_init, .func (PySem.W.fnOf "__init__" "Never.__init__" (defArgs s_Never_init) (defBody s_Never_init) (defScope s_Never_init) .none kV_Never_init dc_Never_init pm_Never_init an_Never_init cd_Never_init ct_Never_init), sl_Never_init⟩)
    (c_Never_init : PySem.W.codeIn K cd_Never_init "Never.__init__" = true)
    (k_Never_init : PySem.W.keepIn K (.ref f_Never_init) = true)
    (a_is_number : PySem.W.nsIn K mainGlobals "is_number" = some (some (.ref f_is_number)))
    (l_is_number : K.lookup f_is_number = some ⟨oc_is_number, od_is_number, .func (PySem.W.fnOf "is_number" "is_number" (defArgs s_is_number) (defBody s_is_number) (defScope s_is_number) .none kV_is_number dc_is_number pm_is_number an_is_number cd_is_number ct_is_number), sl_is_number⟩)
    (c_is_number : PySem.W.codeIn K cd_is_number "is_number" = true)
    (k_is_number : PySem.W.keepIn K (.ref f_is_number) = true)
    (a_asked_row : PySem.W.nsIn K mainGlobals "asked_row" = some (some (.ref f_asked_row)))
    (l_asked_row : K.lookup f_asked_row = some ⟨oc_asked_row, od_asked_row, .func (PySem.W.fnOf "asked_row" "asked_row" (defArgs s_asked_row) (defBody s_asked_row) (defScope s_asked_row) .none kV_asked_row dc_asked_row pm_asked_row an_asked_row cd_asked_row ct_asked_row), sl_asked_row⟩)
    (c_asked_row : PySem.W.codeIn K cd_asked_row "asked_row" = true)
    (k_asked_row : PySem.W.keepIn K (.ref f_asked_row) = true)
    (a_asked_total : PySem.W.nsIn K mainGlobals "asked_total" = some (some (.ref f_asked_total)))
    (l_asked_total : K.lookup f_asked_total = some ⟨oc_asked_total, od_asked_total, .func (PySem.W.fnOf "asked_total" "asked_total" (defArgs s_asked_total) (defBody s_asked_total) (defScope s_asked_total) .none kV_asked_total dc_asked_total pm_asked_total an_asked_total cd_asked_total ct_asked_total), sl_asked_total⟩)
    (c_asked_total : PySem.W.codeIn K cd_asked_total "asked_total" = true)
    (k_asked_total : PySem.W.keepIn K (.ref f_asked_total) = true)
    (a_exact : PySem.W.nsIn K mainGlobals "exact" = some (some (.ref f_exact)))
    (l_exact : K.lookup f_exact = some ⟨oc_exact, od_exact, .func (PySem.W.fnOf "exact" "exact" (defArgs s_exact) (defBody s_exact) (defScope s_exact) .none kV_exact dc_exact pm_exact an_exact cd_exact ct_exact), sl_exact⟩)
    (c_exact : PySem.W.codeIn K cd_exact "exact" = true)
    (k_exact : PySem.W.keepIn K (.ref f_exact) = true)
    (a_how_many : PySem.W.nsIn K mainGlobals "how_many" = some (some (.ref f_how_many)))
    (l_how_many : K.lookup f_how_many = some ⟨oc_how_many, od_how_many, .func (PySem.W.fnOf "how_many" "how_many" (defArgs s_how_many) (defBody s_how_many) (defScope s_how_many) .none kV_how_many dc_how_many pm_how_many an_how_many cd_how_many ct_how_many), sl_how_many⟩)
    (c_how_many : PySem.W.codeIn K cd_how_many "how_many" = true)
    (k_how_many : PySem.W.keepIn K (.ref f_how_many) = true)
    (a_law_k04 : PySem.W.nsIn K mainGlobals "law" = some (some (.ref f_law_k04)))
    (l_law_k04 : K.lookup f_law_k04 = some ⟨oc_law_k04, od_law_k04, .func (PySem.W.fnOf "law" "law" (defArgs s_law_k04) (defBody s_law_k04) (defScope s_law_k04) .none kV_law_k04 dc_law_k04 pm_law_k04 an_law_k04 cd_law_k04 ct_law_k04), sl_law_k04⟩)
    (c_law_k04 : PySem.W.codeIn K cd_law_k04 "law" = true)
    (k_law_k04 : PySem.W.keepIn K (.ref f_law_k04) = true)
    (mk_Exact : PySem.W.makesIn K C_Exact = true)
    (kc_Exact : PySem.W.keepIn K (.ref C_Exact) = true)
    (mk_Never : PySem.W.makesIn K C_Never = true)
    (kc_Never : PySem.W.keepIn K (.ref C_Never) = true)
    (x_xn : PySem.W.specialIn K (.builtin "object.__class__") "__get__" = some (some (.builtin "getset_descriptor.__get__")))
    (x_xt : PySem.W.takesIn K (.builtin "object.__class__") = some true)
    (x_xa_Exact : PySem.W.findIn K (.ref C_Exact) "__class__" = some (some (.builtin "object.__class__")))
    (x_xm_Exact : PySem.W.mroIn K C_Exact (.type "object") = some true)
    (x_xc_Answer : PySem.W.isClsIn K C_Answer = true)
    (x_xy_Answer : PySem.W.typeIn K (.ref C_Answer) = some (.type "type"))
    (x_xs_Exact : PySem.W.subIn K (.ref C_Exact) (.ref C_Exact) = some true)
    (x_xk_Exact_Answer : PySem.W.subIn K (.ref C_Exact) (.ref C_Answer) = some true)
    (x_xc_Exact : PySem.W.isClsIn K C_Exact = true)
    (x_xy_Exact : PySem.W.typeIn K (.ref C_Exact) = some (.type "type"))
    (x_xk_Exact_Exact : PySem.W.subIn K (.ref C_Exact) (.ref C_Exact) = some true)
    (x_xc_Never : PySem.W.isClsIn K C_Never = true)
    (x_xy_Never : PySem.W.typeIn K (.ref C_Never) = some (.type "type"))
    (x_xk_Exact_Never : PySem.W.subIn K (.ref C_Exact) (.ref C_Never) = some false)
    (x_xc_Best : PySem.W.isClsIn K C_Best = true)
    (x_xy_Best : PySem.W.typeIn K (.ref C_Best) = some (.type "type"))
    (x_xk_Exact_Best : PySem.W.subIn K (.ref C_Exact) (.ref C_Best) = some false)
    (x_xc_Around : PySem.W.isClsIn K C_Around = true)
    (x_xy_Around : PySem.W.typeIn K (.ref C_Around) = some (.type "type"))
    (x_xk_Exact_Around : PySem.W.subIn K (.ref C_Exact) (.ref C_Around) = some false)
    (x_xa_Never : PySem.W.findIn K (.ref C_Never) "__class__" = some (some (.builtin "object.__class__")))
    (x_xm_Never : PySem.W.mroIn K C_Never (.type "object") = some true)
    (x_xs_Never : PySem.W.subIn K (.ref C_Never) (.ref C_Never) = some true)
    (x_xk_Never_Answer : PySem.W.subIn K (.ref C_Never) (.ref C_Answer) = some true)
    (x_xk_Never_Exact : PySem.W.subIn K (.ref C_Never) (.ref C_Exact) = some false)
    (x_xk_Never_Never : PySem.W.subIn K (.ref C_Never) (.ref C_Never) = some true)
    (x_xk_Never_Best : PySem.W.subIn K (.ref C_Never) (.ref C_Best) = some false)
    (x_xk_Never_Around : PySem.W.subIn K (.ref C_Never) (.ref C_Around) = some false) : Txt K mg { Answer := C_Answer, Around := C_Around, Best := C_Best, Exact := C_Exact, Never := C_Never } :=
  { n_all := PySem.W.mg_none_of X G z_all,
    n_any := PySem.W.mg_none_of X G z_any,
    n_bool := PySem.W.mg_none_of X G z_bool,
    n_enumerate := PySem.W.mg_none_of X G z_enumerate,
    n_int := PySem.W.mg_none_of X G z_int,
    n_isinstance := PySem.W.mg_none_of X G z_isinstance,
    n_len := PySem.W.mg_none_of X G z_len,
    n_list := PySem.W.mg_none_of X G z_list,
    n_range := PySem.W.mg_none_of X G z_range,
    n_sorted := PySem.W.mg_none_of X G z_sorted,
    n_sum := PySem.W.mg_none_of X G z_sum,
    n_tuple := PySem.W.mg_none_of X G z_tuple,
    k_FARTHEST := tk_FARTHEST,
    g_FARTHEST := PySem.W.mg_of X G c_FARTHEST,
    g_Answer := PySem.W.mg_of X G a_Answer,
    g_Around := PySem.W.mg_of X G a_Around,
    g_Best := PySem.W.mg_of X G a_Best,
    g_Exact := PySem.W.mg_of X G a_Exact,
    g_Never := PySem.W.mg_of X G a_Never,
    cl_Exact := ⟨pg_Exact, hd_Exact, po_Exact, sa_Exact⟩,
    cl_Never := ⟨pg_Never, hd_Never, po_Never, sa_Never⟩,
    na_Exact_first := na_Exact_first,
    na_Exact_many := na_Exact_many,
    na_Exact_table := na_Exact_table,
    na_Never_first := na_Never_first,
    na_Never_many := na_Never_many,
    na_Never_table := na_Never_table,
    f_is_there := f_is_there,
    d_is_there := _,
    F_is_there := fun_mk (st := s_is_there) l_is_there c_is_there k_is_there,
    b_is_there := (fun_mk (st := s_is_there) l_is_there c_is_there k_is_there).binds (ps := (["first", "many", "length"] : List Str)) fun _ _ _ _ _ _ us hl => match us, hl with | [_, _, _], _ => rfl,
    g_is_there := PySem.W.mg_of X G a_is_there,
    f_Exact_shows := f_Exact_shows,
    d_Exact_shows := _,
    F_Exact_shows := fun_mk (st := s_Exact_shows) l_Exact_shows c_Exact_shows k_Exact_shows,
    b_Exact_shows := (fun_mk (st := s_Exact_shows) l_Exact_shows c_Exact_shows k_Exact_shows).binds (ps := (["self", "row", "total"] : List Str)) fun _ _ _ _ _ _ us hl => match us, hl with | [_, _, _], _ => rfl,
    me_Exact_shows := ⟨a_Exact_shows, i_Exact_shows, k_Exact_shows⟩,
    f_summed := f_summed,
    d_summed := _,
    F_summed := fun_mk (st := s_summed) l_summed c_summed k_summed,
    b_summed := (fun_mk (st := s_summed) l_summed c_summed k_summed).binds (ps := (["row"] : List Str)) fun _ _ _ _ _ _ us hl => match us, hl with | [_], _ => rfl,
    g_summed := PySem.W.mg_of X G a_summed,
    f_Never_shows := f_Never_shows,
    d_Never_shows := _,
    F_Never_shows := fun_mk (st := s_Never_shows) l_Never_shows c_Never_shows k_Never_shows,
    b_Never_shows := (fun_mk (st := s_Never_shows) l_Never_shows c_Never_shows k_Never_shows).binds (ps := (["self", "row", "total"] : List Str)) fun _ _ _ _ _ _ us hl => match us, hl with | [_, _, _], _ => rfl,
    me_Never_shows := ⟨a_Never_shows, i_Never_shows, k_Never_shows⟩,
    f_l_sums := f_l_sums,
    d_l_sums := _,
    F_l_sums := fun_mk (st := s_l_sums) l_l_sums c_l_sums k_l_sums,
    b_l_sums := (fun_mk (st := s_l_sums) l_l_sums c_l_sums k_l_sums).binds (ps := (["_law_row_here"] : List Str)) fun _ _ _ _ _ _ us hl => match us, hl with | [_], _ => rfl,
    g_l_sums := PySem.W.mg_of X G a_l_sums,
    f_l_count := f_l_count,
    d_l_count := _,
    F_l_count := fun_mk (st := s_l_count) l_l_count c_l_count k_l_count,
    b_l_count := (fun_mk (st := s_l_count) l_l_count c_l_count k_l_count).binds (ps := (["_law_row_here", "_law_total"] : List Str)) fun _ _ _ _ _ _ us hl => match us, hl with | [_, _], _ => rfl,
    g_l_count := PySem.W.mg_of X G a_l_count,
    f_l_numbers := f_l_numbers,
    d_l_numbers := _,
    F_l_numbers := fun_mk (st := s_l_numbers) l_l_numbers c_l_numbers k_l_numbers,
    b_l_numbers := (fun_mk (st := s_l_numbers) l_l_numbers c_l_numbers k_l_numbers).binds (ps := (["_law_found"] : List Str)) fun _ _ _ _ _ _ us hl => match us, hl with | [_], _ => rfl,
    g_l_numbers := PySem.W.mg_of X G a_l_numbers,
    f_l_none_k04 := f_l_none_k04,
    d_l_none_k04 := _,
    F_l_none_k04 := fun_mk (st := s_l_none_k04) l_l_none_k04 c_l_none_k04 k_l_none_k04,
    b_l_none_k04 := (fun_mk (st := s_l_none_k04) l_l_none_k04 c_l_none_k04 k_l_none_k04).binds (ps := (["_law_row_here", "_law_total", "_law_table"] : List Str)) fun _ _ _ _ _ _ us hl => match us, hl with | [_, _, _], _ => rfl,
    g_l_none_k04 := PySem.W.mg_of X G a_l_none_k04,
    f_l_right_k04 := f_l_right_k04,
    d_l_right_k04 := _,
    F_l_right_k04 := fun_mk (st := s_l_right_k04) l_l_right_k04 c_l_right_k04 k_l_right_k04,
    b_l_right_k04 := (fun_mk (st := s_l_right_k04) l_l_right_k04 c_l_right_k04 k_l_right_k04).binds (ps := (["_law_row_here", "_law_total", "_law_found"] : List Str)) fun _ _ _ _ _ _ us hl => match us, hl with | [_, _, _], _ => rfl,
    g_l_right_k04 := PySem.W.mg_of X G a_l_right_k04,
    f_l_row := f_l_row,
    d_l_row := _,
    F_l_row := fun_mk (st := s_l_row) l_l_row c_l_row k_l_row,
    b_l_row := (fun_mk (st := s_l_row) l_l_row c_l_row k_l_row).binds (ps := (["_law_script"] : List Str)) fun _ _ _ _ _ _ us hl => match us, hl with | [_], _ => rfl,
    g_l_row := PySem.W.mg_of X G a_l_row,
    f_Exact_init := f_Exact_init,
    d_Exact_init := _,
    F_Exact_init := fun_mk (st := s_Exact_init) l_Exact_init c_Exact_init k_Exact_init,
    b_Exact_init := (fun_mk (st := s_Exact_init) l_Exact_init c_Exact_init k_Exact_init).binds (ps := (["self", "first", "many"] : List Str)) fun _ _ _ _ _ _ us hl => match us, hl with | [_, _, _], _ => rfl,
    f_Never_init := f_Never_init,
    d_Never_init := _,
    F_Never_init := fun_mk (st := s_Never_init) l_Never_init c_Never_init k_Never_init,
    b_Never_init := (fun_mk (st := s_Never_init) l_Never_init c_Never_init k_Never_init).binds (ps := (["self", "table"] : List Str)) fun _ _ _ _ _ _ us hl => match us, hl with | [_, _], _ => rfl,
    f_is_number := f_is_number,
    d_is_number := _,
    F_is_number := fun_mk (st := s_is_number) l_is_number c_is_number k_is_number,
    b_is_number := (fun_mk (st := s_is_number) l_is_number c_is_number k_is_number).binds (ps := (["thing"] : List Str)) fun _ _ _ _ _ _ us hl => match us, hl with | [_], _ => rfl,
    g_is_number := PySem.W.mg_of X G a_is_number,
    f_asked_row := f_asked_row,
    d_asked_row := _,
    F_asked_row := fun_mk (st := s_asked_row) l_asked_row c_asked_row k_asked_row,
    b_asked_row := (fun_mk (st := s_asked_row) l_asked_row c_asked_row k_asked_row).binds (ps := (["row"] : List Str)) fun _ _ _ _ _ _ us hl => match us, hl with | [_], _ => rfl,
    g_asked_row := PySem.W.mg_of X G a_asked_row,
    f_asked_total := f_asked_total,
    d_asked_total := _,
    F_asked_total := fun_mk (st := s_asked_total) l_asked_total c_asked_total k_asked_total,
    b_asked_total := (fun_mk (st := s_asked_total) l_asked_total c_asked_total k_asked_total).binds (ps := (["total"] : List Str)) fun _ _ _ _ _ _ us hl => match us, hl with | [_], _ => rfl,
    g_asked_total := PySem.W.mg_of X G a_asked_total,
    f_exact := f_exact,
    d_exact := _,
    F_exact := fun_mk (st := s_exact) l_exact c_exact k_exact,
    b_exact := (fun_mk (st := s_exact) l_exact c_exact k_exact).binds (ps := (["row", "total"] : List Str)) fun _ _ _ _ _ _ us hl => match us, hl with | [_, _], _ => rfl,
    g_exact := PySem.W.mg_of X G a_exact,
    f_how_many := f_how_many,
    d_how_many := _,
    F_how_many := fun_mk (st := s_how_many) l_how_many c_how_many k_how_many,
    b_how_many := (fun_mk (st := s_how_many) l_how_many c_how_many k_how_many).binds (ps := (["row", "total"] : List Str)) fun _ _ _ _ _ _ us hl => match us, hl with | [_, _], _ => rfl,
    g_how_many := PySem.W.mg_of X G a_how_many,
    f_law_k04 := f_law_k04,
    d_law_k04 := _,
    F_law_k04 := fun_mk (st := s_law_k04) l_law_k04 c_law_k04 k_law_k04,
    b_law_k04 := (fun_mk (st := s_law_k04) l_law_k04 c_law_k04 k_law_k04).binds (ps := (["_law_script"] : List Str)) fun _ _ _ _ _ _ us hl => match us, hl with | [_], _ => rfl,
    g_law_k04 := PySem.W.mg_of X G a_law_k04,
    mk_Exact := ⟨mk_Exact, a_Exact_init, i_Exact_init, kc_Exact⟩,
    mk_Never := ⟨mk_Never, a_Never_init, i_Never_init, kc_Never⟩,
    xn := x_xn,
    xt := x_xt,
    xa_Exact := x_xa_Exact,
    xm_Exact := x_xm_Exact,
    xc_Answer := x_xc_Answer,
    xy_Answer := x_xy_Answer,
    xs_Exact := x_xs_Exact,
    xk_Exact_Answer := x_xk_Exact_Answer,
    xc_Exact := x_xc_Exact,
    xy_Exact := x_xy_Exact,
    xk_Exact_Exact := x_xk_Exact_Exact,
    xc_Never := x_xc_Never,
    xy_Never := x_xy_Never,
    xk_Exact_Never := x_xk_Exact_Never,
    xc_Best := x_xc_Best,
    xy_Best := x_xy_Best,
    xk_Exact_Best := x_xk_Exact_Best,
    xc_Around := x_xc_Around,
    xy_Around := x_xy_Around,
    xk_Exact_Around := x_xk_Exact_Around,
    xa_Never := x_xa_Never,
    xm_Never := x_xm_Never,
    xs_Never := x_xs_Never,
    xk_Never_Answer := x_xk_Never_Answer,
    xk_Never_Exact := x_xk_Never_Exact,
    xk_Never_Never := x_xk_Never_Never,
    xk_Never_Best := x_xk_Never_Best,
    xk_Never_Around := x_xk_Never_Around }
theorem all_mk {l : PySem.W.OpenLaw} {w : World} {K : PySem.W.Frag} {mg : Str → Option Value} {fa : Addr} {cs : Cs} (T : Txt K mg cs) (hfa : mg "law" = some (.ref fa)) :
    ∃ fd : FuncData, (∀ (s : Shared) (v : Value), BindsTo s fd ⟨[v], []⟩ [("_law_script", v)]) ∧ ∀ base : Heap, K.In base → base.Ns mainGlobals mg → FnOk l.prog w K mg base CX0 4 fa fd (["_law_script"] : List Str) (sp_law_k04 K cs) := by
  have e := hfa.symm.trans T.g_law_k04
  cases e
  refine ⟨T.d_law_k04, fun s v => ?_, fun base _ _ => ok_law_k04 T⟩
  obtain ⟨oc, od, kV, doc, pm, an, cdv, ct, osl, e, _, _⟩ := T.F_law_k04.ex
  rw [e]
  exact .of_eq rfl
theorem walk {l : PySem.W.OpenLaw} {q : Program} {loose : List Str} {XP : (Str → Option Value) → Heap → Prop} {YP : World → Heap → Prop} {d : DefRec} {K : Params → PySem.W.Frag} (hn : l.most = some 63) (hdf : d.params.defaults = [])
    (hY : ∀ (w : World) (h : Heap), YP w h → (K w.params).In h)
    (F : ∀ (w : World) (mg : Str → Option Value) (fa : Addr) (h : Heap), (K w.params).In h → h.Ns mainGlobals mg → mg d.name = some (.ref fa) →
      ∃ fd : FuncData, (∀ (s : Shared) (u : Value), BindsTo s fd ⟨[u], []⟩ [("_law_script", u)]) ∧ ∀ base : Heap, (K w.params).In base → base.Ns mainGlobals mg → FnOk l.prog w (K w.params) mg base CX0 4 fa fd (["_law_script"] : List Str) (spLaw (K w.params))) :
    PySem.W.WalkO q loose XP YP l.row.toRowW d [] (fun f vs => PySem.call f vs) :=
  L2.walk_of (n := 63) (k := 4) (x := "_law_script") (CX := fun _ => CX0) (sp := fun w => spLaw (K w.params)) hn (by decide) hdf ⟨rfl, by decide, by decide⟩ hY F (fun _ _ a ns hl _ hS => ⟨a, ns, rfl, hS, hl, fun _ => rfl⟩) fun _ _ _ _ _ z => z
end Bs
open PySem PySem.W PyProof.Rows
set_option maxRecDepth 100000 in
set_option maxHeartbeats 0 in
theorem PySem.Challenge.cw_beststretch_k04_whole_exact_holds : PySem.Challenge.rw_beststretch_k04_whole_exact.Holds := by
  w_on; o_law; k_head; (case hw => w_witness2)
  k_fill
  refine Bs.walk (l := PySem.Challenge.rw_beststretch_k04_whole_exact) rfl rfl (fun w h Y => PySem.W.kIn_of Y) ?F
  case F =>
    intro w mg fa h KX G hmg
    refine' Bs.all_mk (Bs.txt_mk KX G ?z_all ?z_any ?z_bool ?z_enumerate ?z_int ?z_isinstance ?z_len ?z_list ?z_range ?z_sorted ?z_sum ?z_tuple ?c_FARTHEST ?a_Answer ?a_Around ?a_Best ?a_Exact ?a_Never ?pg_Exact ?hd_Exact ?po_Exact ?sa_Exact ?pg_Never ?hd_Never ?po_Never ?sa_Never ?na_Exact_first ?na_Exact_many ?na_Exact_table ?na_Never_first ?na_Never_many ?na_Never_table ?a_is_there ?l_is_there ?c_is_there ?k_is_there ?a_Exact_shows ?i_Exact_shows ?l_Exact_shows ?c_Exact_shows ?k_Exact_shows ?a_summed ?l_summed ?c_summed ?k_summed ?a_Never_shows ?i_Never_shows ?l_Never_shows ?c_Never_shows ?k_Never_shows ?a_l_sums ?l_l_sums ?c_l_sums ?k_l_sums ?a_l_count ?l_l_count ?c_l_count ?k_l_count ?a_l_numbers ?l_l_numbers ?c_l_numbers ?k_l_numbers ?a_l_none_k04 ?l_l_none_k04 ?c_l_none_k04 ?k_l_none_k04 ?a_l_right_k04 ?l_l_right_k04 ?c_l_right_k04 ?k_l_right_k04 ?a_l_row ?l_l_row ?c_l_row ?k_l_row ?a_Exact_init ?i_Exact_init ?l_Exact_init ?c_Exact_init ?k_Exact_init ?a_Never_init ?i_Never_init ?l_Never_init ?c_Never_init ?k_Never_init ?a_is_number ?l_is_number ?c_is_number ?k_is_number ?a_asked_row ?l_asked_row ?c_asked_row ?k_asked_row ?a_asked_total ?l_asked_total ?c_asked_total ?k_asked_total ?a_exact ?l_exact ?c_exact ?k_exact ?a_how_many ?l_how_many ?c_how_many ?k_how_many ?a_law_k04 ?l_law_k04 ?c_law_k04 ?k_law_k04 ?mk_Exact ?kc_Exact ?mk_Never ?kc_Never ?x_xn ?x_xt ?x_xa_Exact ?x_xm_Exact ?x_xc_Answer ?x_xy_Answer ?x_xs_Exact ?x_xk_Exact_Answer ?x_xc_Exact ?x_xy_Exact ?x_xk_Exact_Exact ?x_xc_Never ?x_xy_Never ?x_xk_Exact_Never ?x_xc_Best ?x_xy_Best ?x_xk_Exact_Best ?x_xc_Around ?x_xy_Around ?x_xk_Exact_Around ?x_xa_Never ?x_xm_Never ?x_xs_Never ?x_xk_Never_Answer ?x_xk_Never_Exact ?x_xk_Never_Never ?x_xk_Never_Best ?x_xk_Never_Around) hmg
    (case z_all => k_is)
    (case z_any => k_is)
    (case z_bool => k_is)
    (case z_enumerate => k_is)
    (case z_int => k_is)
    (case z_isinstance => k_is)
    (case z_len => k_is)
    (case z_list => k_is)
    (case z_range => k_is)
    (case z_sorted => k_is)
    (case z_sum => k_is)
    (case z_tuple => k_is)
    (case c_FARTHEST => k_is)
    (case a_Answer => k_is)
    (case a_Around => k_is)
    (case a_Best => k_is)
    (case a_Exact => k_is)
    (case a_Never => k_is)
    (case pg_Exact => k_is)
    (case hd_Exact => k_is)
    (case po_Exact => k_is)
    (case sa_Exact => k_is)
    (case pg_Never => k_is)
    (case hd_Never => k_is)
    (case po_Never => k_is)
    (case sa_Never => k_is)
    (case na_Exact_first => k_is)
    (case na_Exact_many => k_is)
    (case na_Exact_table => k_is)
    (case na_Never_first => k_is)
    (case na_Never_many => k_is)
    (case na_Never_table => k_is)
    (case a_is_there => k_is)
    (case l_is_there => k_is)
    (case c_is_there => k_is)
    (case k_is_there => k_is)
    (case a_Exact_shows => k_is)
    (case i_Exact_shows => k_is)
    (case l_Exact_shows => k_is)
    (case c_Exact_shows => k_is)
    (case k_Exact_shows => k_is)
    (case a_summed => k_is)
    (case l_summed => k_is)
    (case c_summed => k_is)
    (case k_summed => k_is)
    (case a_Never_shows => k_is)
    (case i_Never_shows => k_is)
    (case l_Never_shows => k_is)
    (case c_Never_shows => k_is)
    (case k_Never_shows => k_is)
    (case a_l_sums => k_is)
    (case l_l_sums => k_is)
    (case c_l_sums => k_is)
    (case k_l_sums => k_is)
    (case a_l_count => k_is)
    (case l_l_count => k_is)
    (case c_l_count => k_is)
    (case k_l_count => k_is)
    (case a_l_numbers => k_is)
    (case l_l_numbers => k_is)
    (case c_l_numbers => k_is)
    (case k_l_numbers => k_is)
    (case a_l_none_k04 => k_is)
    (case l_l_none_k04 => k_is)
    (case c_l_none_k04 => k_is)
    (case k_l_none_k04 => k_is)
    (case a_l_right_k04 => k_is)
    (case l_l_right_k04 => k_is)
    (case c_l_right_k04 => k_is)
    (case k_l_right_k04 => k_is)
    (case a_l_row => k_is)
    (case l_l_row => k_is)
    (case c_l_row => k_is)
    (case k_l_row => k_is)
    (case a_Exact_init => k_is)
    (case i_Exact_init => k_is)
    (case l_Exact_init => k_is)
    (case c_Exact_init => k_is)
    (case k_Exact_init => k_is)
    (case a_Never_init => k_is)
    (case i_Never_init => k_is)
    (case l_Never_init => k_is)
    (case c_Never_init => k_is)
    (case k_Never_init => k_is)
    (case a_is_number => k_is)
    (case l_is_number => k_is)
    (case c_is_number => k_is)
    (case k_is_number => k_is)
    (case a_asked_row => k_is)
    (case l_asked_row => k_is)
    (case c_asked_row => k_is)
    (case k_asked_row => k_is)
    (case a_asked_total => k_is)
    (case l_asked_total => k_is)
    (case c_asked_total => k_is)
    (case k_asked_total => k_is)
    (case a_exact => k_is)
    (case l_exact => k_is)
    (case c_exact => k_is)
    (case k_exact => k_is)
    (case a_how_many => k_is)
    (case l_how_many => k_is)
    (case c_how_many => k_is)
    (case k_how_many => k_is)
    (case a_law_k04 => k_is)
    (case l_law_k04 => k_is)
    (case c_law_k04 => k_is)
    (case k_law_k04 => k_is)
    (case mk_Exact => k_is)
    (case kc_Exact => k_is)
    (case mk_Never => k_is)
    (case kc_Never => k_is)
    (case x_xn => k_is)
    (case x_xt => k_is)
    (case x_xa_Exact => k_is)
    (case x_xm_Exact => k_is)
    (case x_xc_Answer => k_is)
    (case x_xy_Answer => k_is)
    (case x_xs_Exact => k_is)
    (case x_xk_Exact_Answer => k_is)
    (case x_xc_Exact => k_is)
    (case x_xy_Exact => k_is)
    (case x_xk_Exact_Exact => k_is)
    (case x_xc_Never => k_is)
    (case x_xy_Never => k_is)
    (case x_xk_Exact_Never => k_is)
    (case x_xc_Best => k_is)
    (case x_xy_Best => k_is)
    (case x_xk_Exact_Best => k_is)
    (case x_xc_Around => k_is)
    (case x_xy_Around => k_is)
    (case x_xk_Exact_Around => k_is)
    (case x_xa_Never => k_is)
    (case x_xm_Never => k_is)
    (case x_xs_Never => k_is)
    (case x_xk_Never_Answer => k_is)
    (case x_xk_Never_Exact => k_is)
    (case x_xk_Never_Never => k_is)
    (case x_xk_Never_Best => k_is)
    (case x_xk_Never_Around => k_is)
