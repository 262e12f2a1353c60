import PyProof.Rows.All
import Wide.All
import OpenK.AllK
import Wide.FinOn
import HandS.ForMost
import HandS.Walk
import HandS.Style
import HandS.IsInst
import HandS.RevRange
import HandS.Conv
import HandS.SortInts
import PySem.Challenge.RW_beststretch_k06_whole_several
set_option Elab.async false
set_option linter.all false
set_option maxRecDepth 100000
set_option maxHeartbeats 4000000
namespace Bs
open PySem L2

/-! ### operators by name -/
def rAddI : R2 := rI0 fun i j => .int (i + j)
def rSubI : R2 := rI0 fun i j => .int (i - j)
def rMulI : R2 := rI CMul fun i j => .int (i * j)
def rModI : R2 := rI (fun _ j => 0 < j) fun i j => .int (i % j)
def rDivI : R2 := rI CDiv fun i j => .int (i / j)
def rPowI : R2 := rI CPow fun i j => .int (i ^ j.toNat)
def rLtI : R2 := rI0 fun i j => .bl (decide (i < j))
def rLeI : R2 := rI0 fun i j => .bl (decide (i ≤ j))
def rGtI : R2 := rI0 fun i j => .bl (decide (j < i))
def rGeI : R2 := rI0 fun i j => .bl (decide (j ≤ i))
def rNegI : V → Hp → VK → Prop := rU fun i => .int (-i)
def cLen (K : PySem.W.Frag) : List V → Hp → VK → Prop := fun xs H Q => ∃ p ys, xs = [.ref p] ∧ (SqL K H p ys ∨ SqT K H p ys) ∧ Q (.int ys.length) H
def cList (K : PySem.W.Frag) : List V → Hp → VK → Prop := fun xs H Q => ∃ p ys, xs = [.ref p] ∧ (SqL K H p ys ∨ SqT K H p ys) ∧ ∀ l, H l = none → Q (.ref l) (upd H l (.lst ys))
def cMax2 : List V → Hp → VK → Prop := fun xs H Q => ∃ i j, xs = [.int i, .int j] ∧ Q (.int (if j > i then j else i)) H
def cMin2 : List V → Hp → VK → Prop := fun xs H Q => ∃ i j, xs = [.int i, .int j] ∧ Q (.int (if j < i then j else i)) H
section
variable {X : Cx}
theorem op_addI : OpR X (binaryOp .Add) rAddI := op_add
theorem op_subI : OpR X (binaryOp .Sub) rSubI := op_sub
theorem op_mulI : OpR X (binaryOp .Mult) rMulI := op_mul
theorem op_modI : OpR X (binaryOp .Mod) rModI := op_mod
theorem op_divI : OpR X (binaryOp .FloorDiv) rDivI := op_fdiv
theorem op_powI : OpR X (binaryOp .Pow) rPowI := op_pow
theorem op_ltI : OpR X (compareOp .Lt) rLtI := op_lt
theorem op_leI : OpR X (compareOp .LtE) rLeI := op_le
theorem op_gtI : OpR X (compareOp .Gt) rGtI := op_gt
theorem op_geI : OpR X (compareOp .GtE) rGeI := op_ge
theorem un_negI : UnR X (unaryOp .USub) rNegI := un_neg
theorem c_len : CallR X (.builtin "len") (cLen X.K) := call_len_seq
theorem c_list : CallR X (.type "list") (cList X.K) := call_list_of
theorem c_max2 (hc : X.calm = true) : CallR X (.builtin "max") cMax2 := call_max2 hc
theorem c_min2 (hc : X.calm = true) : CallR X (.builtin "min") cMin2 := call_min2 hc
/-- one of two readings -/
def tAlt (t u : TE) : TE := fun σ H Q => t σ H Q ∨ u σ H Q
theorem pe_alt {e : Expr} {t u : TE} (h1 : PE X e t) (h2 : PE X e u) : PE X e (tAlt t u) :=
  ⟨fun pins s σ H Q I h => h.elim (fun q => h1.run pins s σ H Q I q) fun q => h2.run pins s σ H Q I q⟩
end

/-! ### heaps -/
section
variable {H H0 H1 H2 : Hp} {a p : Addr} {o o' : HO} {K : PySem.W.Frag} {xs : List V}
theorem same_new (s : Same H0 H) (n : H p = none) : Same H0 (upd H p o) := fun b u e => by
  have := s b u e
  rw [upd_ne (ne_of_none this n)]
  exact this
theorem same_mut (s : Same H0 H) (n : H0 p = none) : Same H0 (upd H p o) := fun b u e => by
  rw [upd_ne (ne_of_none e n)]
  exact s b u e
theorem same_new' (n : H p = none) (s : Same H0 H) : Same H0 (upd H p o) := same_new s n
theorem same_mut' (n : H0 p = none) (s : Same H0 H) : Same H0 (upd H p o) := same_mut s n
theorem same_r (s : Same H1 H2) (t : Same H0 H1) : Same H0 H2 := t.trans s
theorem at_new (h : H a = some o) (n : H p = none) : upd H p o' a = some o := (upd_ne (ne_of_none h n)).trans h
theorem at_new' (n : H p = none) (h : H a = some o) : upd H p o' a = some o := at_new h n
theorem at_mut (d : a ≠ p) (h : H a = some o) : upd H p o' a = some o := (upd_ne d).trans h
theorem at_same (s : Same H0 H) (h : H0 a = some o) : H a = some o := s a o h
theorem free_of (s : Same H0 H) (h : H p = none) : H0 p = none := s.free h
theorem ne_old (n : H p = none) (h : H a = some o) : a ≠ p := ne_of_none h n
theorem sq_same (h : SqL K H0 a xs) (s : Same H0 H) : SqL K H a xs := s.seq h
theorem sqt_same (h : SqT K H0 a xs) (s : Same H0 H) : SqT K H a xs := by
  rcases h with (h | ⟨o, h⟩) | h
  · exact .inl (.inl (s _ _ h))
  · exact .inl (.inr ⟨o, s _ _ h⟩)
  · exact .inr h
theorem free_of' (h : H p = none) (s : Same H0 H) : H0 p = none := s.free h
theorem rd_frz {u : HO} {od : Obj} (h : H a = some (.frz od u)) : Rd H a u := .inr ⟨od, h⟩
theorem free_upd (n : H a = none) (d : a ≠ p) : upd H p o a = none := (upd_ne d).trans n
end

/-! ### what a def hands back -/
/-- a value, the objects as they were -/
def RetV (H : Hp) (Q : VK) (v : V) : Prop := ∀ H', Same H H' → Q v H'
/-- a new list of ints -/
def RetI (H : Hp) (Q : VK) (ns : List Int) : Prop := ∀ p H', H p = none → Same H H' → H' p = some (.lst (ns.map V.int)) → Q (.ref p) H'

/-! ### what is wanted behind a part, by name -/
def kBl (Q : Bool → Hp → Prop) : VK := fun x H => ∃ k, x = .bl k ∧ Q k H
def kNot (Q : Bool → Hp → Prop) : Bool → Hp → Prop := fun c H => Q (!c) H
def kAnd (u : TT) (σ : L2.St) (Q : Bool → Hp → Prop) : Bool → Hp → Prop := fun c H => if c = true then u σ H Q else Q false H
def kOr (u : TT) (σ : L2.St) (Q : Bool → Hp → Prop) : Bool → Hp → Prop := fun c H => if c = true then Q true H else u σ H Q
def kAndV (u : TE) (σ : L2.St) (Q : VK) : VK := fun x H => ∃ c, x = .bl c ∧ if c = true then u σ H Q else Q (.bl false) H
def kOrV (u : TE) (σ : L2.St) (Q : VK) : VK := fun x H => ∃ c, x = .bl c ∧ if c = true then Q (.bl true) H else u σ H Q
def kNotV (Q : VK) : VK := fun x H => ∃ c, x = .bl c ∧ Q (.bl (!c)) H
def kIfS (t u : TS) (D : Ends) (σ : L2.St) : Bool → Hp → Prop := fun b H => if b = true then t D σ H else u D σ H
def kIfE (t u : TE) (σ : L2.St) (Q : VK) : Bool → Hp → Prop := fun b H => if b = true then t σ H Q else u σ H Q
def kSet (i : Nat) (D : Ends) (σ : L2.St) : VK := fun v H => D.nx (σ.set i (some v)) H
def kAsg (g : TG) (D : Ends) (σ : L2.St) : VK := fun v H => g v σ H D.nx
def kDrop (D : Ends) (σ : L2.St) : VK := fun _ H => D.nx σ H
def kCall (sp : Sp) (dvs : List V) (E : XK) (Q : VK) : List V → Hp → Prop := fun vs H => sp (vs ++ dvs) H Q E
def kCB (r : List V → Hp → VK → Prop) (Q : VK) : List V → Hp → Prop := fun vs H => r vs H Q
def kBM (K : PySem.W.Frag) (T : String) (r : V → List V → Hp → VK → Prop) (ta : TA) (σ : L2.St) (Q : VK) : VK := fun x H => tyV K T x H ∧ ta σ H fun xs H2 => r x xs H2 Q
def kBM0 (K : PySem.W.Frag) (T : String) (r : V → List V → Hp → VK → Prop) (Q : VK) : VK := fun x H => tyV K T x H ∧ r x [] H Q
def kFor (g : TG) (tb : TS) (D : Ends) (σ : L2.St) : It → Hp → Prop := fun J H1 => ∃ W : Nat → Nat → L2.St → Hp → Prop, (∃ m, W 0 m σ H1) ∧ ∀ i m σ H, W i m σ H →
    (J.stop i H ∧ D.nx σ H) ∨ (J.go i H ∧ ∃ N : L2.St → Hp → Prop, (∀ σ' H', N σ' H' → ∃ m', m' < m ∧ W (i + 1) m' σ' H') ∧ ∀ x H', J.yld i H x H' → g x σ H' fun σ2 H2 => tb { D with nx := N, ct := N, bk := D.nx } σ2 H2)
def kLc (g : TG) (tt : TT) (te : TE) (vs : List Nat) (σ : L2.St) (Q : VK) : It → Hp → Prop := fun J H1 => ∀ D, H1 D = none → ∃ W : Nat → Nat → Hp → Prop, (∃ m, W 0 m (upd H1 D (.lst []))) ∧ ∀ i m H, W i m H →
    (J.stop i H ∧ Q (.ref D) H) ∨ (J.go i H ∧ ∃ Nx : Hp → Prop, (∀ H', Nx H' → ∃ m', m' < m ∧ W (i + 1) m' H') ∧ ∀ x H', J.yld i H x H' → g x (wipe σ vs) H' fun σ2 H2 => wipe σ2 vs = wipe σ vs ∧ tt σ2 H2 fun b H3 =>
      if b = true then te σ2 H3 fun y H4 => ∃ acc, H4 D = some (.lst acc) ∧ acc.length < sizeLine ∧ Nx (upd H4 D (.lst (acc ++ [y]))) else Nx H3)
def kIList (K : PySem.W.Frag) (R : It → Hp → Prop) : VK := fun x H => ∃ a, x = .ref a ∧ (∃ xs, SqL K H a xs) ∧ R (Itl K a) H
def kRng1 (R : It → Hp → Prop) : List V → Hp → Prop := fun vs H1 => ∃ j : Int, vs = [.int j] ∧ -(2 ^ 62) ≤ j ∧ j < 2 ^ 62 ∧ R (Itr 0 j.toNat) H1
def kRng2 (R : It → Hp → Prop) : List V → Hp → Prop := fun vs H1 => ∃ i j : Int, vs = [.int i, .int j] ∧ (-(2 ^ 62) ≤ i ∧ i < 2 ^ 62 ∧ -(2 ^ 62) ≤ j ∧ j < 2 ^ 62) ∧ R (Itr i (j - i).toNat) H1
def kEnum (K : PySem.W.Frag) (R : It → Hp → Prop) : List V → Hp → Prop := fun vs H1 => ∃ a xs, vs = [.ref a] ∧ SqL K H1 a xs ∧ R (Ite K a) H1
def kLst (Q : VK) : List V → Hp → Prop := fun xs H1 => xs.length ≤ sizeLine ∧ ∀ p, H1 p = none → Q (.ref p) (upd H1 p (.lst xs))
def kTup (Q : VK) : List V → Hp → Prop := fun xs H1 => xs.length ≤ sizeLine ∧ ∀ p, H1 p = none → Q (.ref p) (upd H1 p (.tup xs))
def kFld (K : PySem.W.Frag) (f : Str) (Q : VK) : VK := fun x H1 => ∃ a C dx fs v, x = .ref a ∧ H1 a = some (.ins C dx fs) ∧ Cls K C ∧ NoAttr K C f ∧ fs.lookup f = some v ∧ Q v H1
def kPart (Q : Option Int → Hp → Prop) : VK := fun x H1 => ∃ i, x = .int i ∧ Q (some i) H1
def kChain (r' : R2) (y : V) (tc : TE) (σ : L2.St) (Q : VK) : VK := fun z H3 => ∃ k, z = .bl k ∧ (if k = true then tc σ H3 fun w' H4 => r' y w' H4 Q else Q (.bl false) H3)
def kMeth (C : Addr) (m : Str) (sp : Sp) (dvs : List V) (E : XK) (t : TA) (σ : L2.St) (Q : VK) : VK := fun x H1 => ∃ a dx fs, x = .ref a ∧ H1 a = some (.ins C dx fs) ∧ fs.lookup m = none ∧ t σ H1 fun vs H2 => sp (x :: (vs ++ dvs)) H2 Q E
def kMake (C : Addr) (sp : Sp) (dvs : List V) (E : XK) (Q : VK) : List V → Hp → Prop := fun vs H1 => ∀ x dx, H1 x = none → H1 dx = none → dx ≠ x →
    sp (.ref x :: (vs ++ dvs)) (upd (upd H1 dx (.own x)) x (.ins C dx [])) (fun v H2 => v = .non ∧ Q (.ref x) H2) E

section
variable {K : PySem.W.Frag} {σ σ' : L2.St} {H H' : Hp} {Q : VK} {QB : Bool → Hp → Prop} {ta tb te : TE} {tt uu : TT} {t u : TS} {D : Ends} {v x y : V} {i j : Int} {r : R2} {a b p : Addr} {ns ms : List Int} {xs ys vs : List V} {c d : Bool}
/-! ### expressions -/
theorem wp_var {n : Nat} (h : σ[n]? = some (some v)) (q : Q v H) : tVar n σ H Q := ⟨v, h, q⟩
theorem wp_c (q : Q v H) : tC v σ H Q := q
theorem wp_op (q : ta σ H fun x H1 => tb σ H1 fun y H2 => r x y H2 Q) : tOp r ta tb σ H Q := q
theorem wp_un {r : V → Hp → VK → Prop} (q : ta σ H fun x H1 => r x H1 Q) : tUn r ta σ H Q := q
theorem wp_addI (q : Q (.int (i + j)) H) : rAddI (.int i) (.int j) H Q := ⟨i, j, rfl, rfl, q⟩
theorem wp_subI (q : Q (.int (i - j)) H) : rSubI (.int i) (.int j) H Q := ⟨i, j, rfl, rfl, q⟩
theorem wp_mulI (h : CMul i j) (q : Q (.int (i * j)) H) : rMulI (.int i) (.int j) H Q := ⟨i, j, rfl, rfl, h, q⟩
theorem wp_modI (h : 0 < j) (q : Q (.int (i % j)) H) : rModI (.int i) (.int j) H Q := ⟨i, j, rfl, rfl, h, q⟩
theorem wp_divI (h : 0 < j ∧ j < 1073741824) (q : Q (.int (i / j)) H) : rDivI (.int i) (.int j) H Q := ⟨i, j, rfl, rfl, h, q⟩
theorem wp_negI (q : Q (.int (-i)) H) : rNegI (.int i) H Q := ⟨i, rfl, q⟩
theorem wp_ltI (q : Q (.bl (decide (i < j))) H) : rLtI (.int i) (.int j) H Q := ⟨i, j, rfl, rfl, q⟩
theorem wp_leI (q : Q (.bl (decide (i ≤ j))) H) : rLeI (.int i) (.int j) H Q := ⟨i, j, rfl, rfl, q⟩
theorem wp_gtI (q : Q (.bl (decide (j < i))) H) : rGtI (.int i) (.int j) H Q := ⟨i, j, rfl, rfl, q⟩
theorem wp_geI (q : Q (.bl (decide (j ≤ i))) H) : rGeI (.int i) (.int j) H Q := ⟨i, j, rfl, rfl, q⟩
theorem dec_int : decide (V.int i = V.int j) = decide (i = j) := by
  by_cases h : i = j
  · subst h; simp
  · rw [decide_eq_false h, decide_eq_false fun z => h (V.int.inj z)]
theorem dec_bl : decide (V.bl c = V.bl d) = decide (c = d) := by
  by_cases h : c = d
  · subst h; simp
  · rw [decide_eq_false h, decide_eq_false fun z => h (V.bl.inj z)]
theorem wp_eqI (q : Q (.bl (decide (i = j))) H) : rEq (.int i) (.int j) H Q := ⟨rfl, by rw [dec_int]; exact q⟩
theorem wp_neI (q : Q (.bl (!decide (i = j))) H) : rNe (.int i) (.int j) H Q := ⟨rfl, by rw [dec_int]; exact q⟩
theorem wp_eqB (q : Q (.bl (decide (c = d))) H) : rEq (.bl c) (.bl d) H Q := ⟨rfl, by rw [dec_bl]; exact q⟩
theorem wp_neB (q : Q (.bl (!decide (c = d))) H) : rNe (.bl c) (.bl d) H Q := ⟨rfl, by rw [dec_bl]; exact q⟩
theorem wp_isB (q : Q (.bl (decide (c = d))) H) : rIsB (.bl c) (.bl d) H Q := ⟨c, d, rfl, rfl, q⟩
theorem wp_ntB (q : Q (.bl (!decide (c = d))) H) : rNotB (.bl c) (.bl d) H Q := ⟨c, d, rfl, rfl, q⟩
/-! ### tests -/
theorem wp_test (q : te σ H (kBl QB)) : tTest te σ H QB := q
theorem wp_tB (q : te σ H (kBl QB)) : tB te σ H QB := q
theorem wp_kB (q : QB c H) : kBl QB (.bl c) H := ⟨c, rfl, q⟩
theorem wp_not (q : tt σ H (kNot QB)) : tNot tt σ H QB := q
theorem wp_kNot (q : QB (!c) H) : kNot QB c H := q
theorem wp_and (q : tt σ H (kAnd uu σ QB)) : tAnd tt uu σ H QB := q
theorem wp_or (q : tt σ H (kOr uu σ QB)) : tOr tt uu σ H QB := q
theorem wp_kAnd {c d : Bool} (h : c = true → ∀ Q' : Bool → Hp → Prop, Q' d H → uu σ H Q') (q : QB (c && d) H) : kAnd uu σ QB c H := by
  cases c with
  | true => exact h rfl QB q
  | false => exact q
theorem wp_kOr {c d : Bool} (h : c = false → ∀ Q' : Bool → Hp → Prop, Q' d H → uu σ H Q') (q : QB (c || d) H) : kOr uu σ QB c H := by
  cases c with
  | true => exact q
  | false => exact h rfl QB q
theorem wp_kAndS {c d : Bool} (h : c = true → ∀ Q' : Bool → Hp → Prop, (∀ H', Same H H' → Q' d H') → uu σ H Q') (q : ∀ H', Same H H' → QB (c && d) H') : kAnd uu σ QB c H := by
  cases c with
  | true => exact h rfl QB q
  | false => exact q H (Same.refl H)
theorem wp_kOrS {c d : Bool} (h : c = false → ∀ Q' : Bool → Hp → Prop, (∀ H', Same H H' → Q' d H') → uu σ H Q') (q : ∀ H', Same H H' → QB (c || d) H') : kOr uu σ QB c H := by
  cases c with
  | true => exact q H (Same.refl H)
  | false => exact h rfl QB q
theorem wp_andV (q : ta σ H (kAndV tb σ Q)) : tAndV ta tb σ H Q := q
theorem wp_orV (q : ta σ H (kOrV tb σ Q)) : tOrV ta tb σ H Q := q
theorem wp_notV (q : ta σ H (kNotV Q)) : tNotV ta σ H Q := q
theorem wp_kNotV (q : Q (.bl (!c)) H) : kNotV Q (.bl c) H := ⟨c, rfl, q⟩
theorem wp_kAndV {c d : Bool} (h : c = true → ∀ Q' : VK, Q' (.bl d) H → tb σ H Q') (q : Q (.bl (c && d)) H) : kAndV tb σ Q (.bl c) H := by
  refine ⟨c, rfl, ?_⟩
  cases c with
  | true => exact h rfl Q q
  | false => exact q
theorem wp_kOrV {c d : Bool} (h : c = false → ∀ Q' : VK, Q' (.bl d) H → tb σ H Q') (q : Q (.bl (c || d)) H) : kOrV tb σ Q (.bl c) H := by
  refine ⟨c, rfl, ?_⟩
  cases c with
  | true => exact q
  | false => exact h rfl Q q
theorem wp_kAndVS {c d : Bool} (h : c = true → ∀ Q' : VK, (∀ H', Same H H' → Q' (.bl d) H') → tb σ H Q') (q : ∀ H', Same H H' → Q (.bl (c && d)) H') : kAndV tb σ Q (.bl c) H := by
  refine ⟨c, rfl, ?_⟩
  cases c with
  | true => exact h rfl Q q
  | false => exact q H (Same.refl H)
theorem wp_kOrVS {c d : Bool} (h : c = false → ∀ Q' : VK, (∀ H', Same H H' → Q' (.bl d) H') → tb σ H Q') (q : ∀ H', Same H H' → Q (.bl (c || d)) H') : kOrV tb σ Q (.bl c) H := by
  refine ⟨c, rfl, ?_⟩
  cases c with
  | true => exact q H (Same.refl H)
  | false => exact h rfl Q q
/-- a chain a op b op' c of pure parts -/
theorem wp_chain {r r' : R2} {tc : TE} (q : ta σ H fun x H1 => tb σ H1 fun y H2 => r x y H2 (kChain r' y tc σ Q)) : tChain r r' ta tb tc σ H Q := q
theorem wp_kChain {r' : R2} {y : V} {tc : TE} {c d : Bool} (h : c = true → ∀ Q' : VK, Q' (.bl d) H → tc σ H fun w H4 => r' y w H4 Q') (q : Q (.bl (c && d)) H) : kChain r' y tc σ Q (.bl c) H := by
  refine ⟨c, rfl, ?_⟩
  cases c with
  | true => exact h rfl Q q
  | false => exact q
theorem wp_ifE (q : tt σ H (kIfE ta tb σ Q)) : tIf tt ta tb σ H Q := q
theorem wp_kIfE (h1 : c = true → ta σ H Q) (h2 : c = false → tb σ H Q) : kIfE ta tb σ Q c H := by
  cases c with
  | true => exact h1 rfl
  | false => exact h2 rfl
/-! ### known answers -/
theorem kOr_f (q : uu σ H QB) : kOr uu σ QB false H := q
theorem kOr_nt (q : uu σ H QB) : kOr uu σ QB (!true) H := q
theorem kOr_t (q : QB true H) : kOr uu σ QB true H := q
theorem kOr_nf (q : QB true H) : kOr uu σ QB (!false) H := q
theorem kAnd_t (q : uu σ H QB) : kAnd uu σ QB true H := q
theorem kAnd_nf (q : uu σ H QB) : kAnd uu σ QB (!false) H := q
theorem kAnd_f (q : QB false H) : kAnd uu σ QB false H := q
theorem kAnd_nt (q : QB false H) : kAnd uu σ QB (!true) H := q
theorem kOrV_f (q : tb σ H Q) : kOrV tb σ Q (.bl false) H := ⟨false, rfl, q⟩
theorem kOrV_nt (q : tb σ H Q) : kOrV tb σ Q (.bl (!true)) H := ⟨false, rfl, q⟩
theorem kAndV_t (q : tb σ H Q) : kAndV tb σ Q (.bl true) H := ⟨true, rfl, q⟩
theorem kAndV_nf (q : tb σ H Q) : kAndV tb σ Q (.bl (!false)) H := ⟨true, rfl, q⟩
theorem kAndV_f (q : Q (.bl false) H) : kAndV tb σ Q (.bl false) H := ⟨false, rfl, q⟩
theorem kIfS_t (q : t D σ H) : kIfS t u D σ true H := q
theorem kIfS_nf (q : t D σ H) : kIfS t u D σ (!false) H := q
theorem kIfS_f (q : u D σ H) : kIfS t u D σ false H := q
theorem kIfS_nt (q : u D σ H) : kIfS t u D σ (!true) H := q
theorem kNotV_t (q : Q (.bl false) H) : kNotV Q (.bl true) H := ⟨true, rfl, q⟩
theorem kNotV_f (q : Q (.bl true) H) : kNotV Q (.bl false) H := ⟨false, rfl, q⟩
theorem kNot_t (q : QB false H) : kNot QB true H := q
theorem kNot_f (q : QB true H) : kNot QB false H := q
theorem kOr_not_t : (false || c) = c := by simp
/-! ### statements -/
theorem wp_seq (q : t { D with nx := u D } σ H) : tSeq t u D σ H := q
theorem wp_asgN {n : Nat} (q : te σ H (kSet n D σ)) : tAsg te (gName n) D σ H := q
theorem wp_asg {g : TG} (q : te σ H (kAsg g D σ)) : tAsg te g D σ H := q
theorem wp_kSet {n : Nat} (h : σ.set n (some v) = σ') (q : D.nx σ' H) : kSet n D σ v H := by
  show D.nx (σ.set n (some v)) H
  rw [h]
  exact q
theorem wp_kAsg {g : TG} (q : g v σ H D.nx) : kAsg g D σ v H := q
theorem wp_nx {n : L2.St → Hp → Prop} {rt : VK} {bk ct : L2.St → Hp → Prop} (q : n σ H) : Ends.nx (Ends.mk n rt bk ct) σ H := q
theorem wp_rt {n : L2.St → Hp → Prop} {rt : VK} {bk ct : L2.St → Hp → Prop} (q : rt v H) : Ends.rt (Ends.mk n rt bk ct) v H := q
theorem wp_next (q : D.nx σ H) : tNext D σ H := q
theorem wp_ret (q : te σ H D.rt) : tRet te D σ H := q
theorem wp_drop (q : te σ H (kDrop D σ)) : tDrop te D σ H := q
theorem wp_kDrop (q : D.nx σ H) : kDrop D σ v H := q
theorem wp_ifS (q : tt σ H (kIfS t u D σ)) : tIfS tt t u D σ H := q
theorem wp_kIfS (h1 : c = true → t D σ H) (h2 : c = false → u D σ H) : kIfS t u D σ c H := by
  cases c with
  | true => exact h1 rfl
  | false => exact h2 rfl
/-! ### arguments, calls -/
theorem wp_nil {Q : List V → Hp → Prop} (q : Q [] H) : tNil σ H Q := q
theorem wp_cons {Q : List V → Hp → Prop} {tr : TA} (q : te σ H fun x H1 => tr σ H1 fun xs H2 => Q (x :: xs) H2) : tCons te tr σ H Q := q
theorem wp_call {sp : Sp} {dvs : List V} {E : XK} {ta : TA} (q : ta σ H (kCall sp dvs E Q)) : tCall sp dvs E ta σ H Q := q
theorem wp_kCall {sp : Sp} {E : XK} (q : sp vs H Q E) : kCall sp [] E Q vs H := by
  show sp (vs ++ []) H Q E
  rw [List.append_nil]
  exact q
theorem wp_tCB {r : List V → Hp → VK → Prop} {ta : TA} (q : ta σ H (kCB r Q)) : tCB r ta σ H Q := q
theorem wp_kCB {r : List V → Hp → VK → Prop} (q : r vs H Q) : kCB r Q vs H := q
theorem wp_len (h : SqL K H a xs) (q : Q (.int xs.length) H) : cLen K [.ref a] H Q := ⟨a, xs, rfl, .inl h, q⟩
theorem wp_lenI (h : SqL K H a (ns.map V.int)) (q : Q (.int ns.length) H) : cLen K [.ref a] H Q := wp_len h (by rw [List.length_map]; exact q)
theorem wp_lenT (h : SqT K H a xs) (q : Q (.int xs.length) H) : cLen K [.ref a] H Q := ⟨a, xs, rfl, .inr h, q⟩
theorem wp_listT (h : SqT K H a xs) (q : ∀ l, H l = none → Q (.ref l) (upd H l (.lst xs))) : cList K [.ref a] H Q := ⟨a, xs, rfl, .inr h, q⟩
theorem wp_ixT {n : Nat} (h : SqT K H a xs) (e : xs[n]? = some v) (q : Q v H) : rIxT K (.ref a) (.int (n : Int)) H Q := ⟨a, xs, _, v, rfl, rfl, h, atI_nat e, q⟩
theorem wp_ixT0 (h : SqT K H a (v :: xs)) (q : Q v H) : rIxT K (.ref a) (.int 0) H Q := ⟨a, _, _, v, rfl, rfl, h, atI_nat (j := 0) rfl, q⟩
theorem wp_ixT1 (h : SqT K H a (x :: v :: xs)) (q : Q v H) : rIxT K (.ref a) (.int 1) H Q := ⟨a, _, _, v, rfl, rfl, h, atI_nat (j := 1) rfl, q⟩
theorem wp_ixT2 (h : SqT K H a (x :: y :: v :: xs)) (q : Q v H) : rIxT K (.ref a) (.int 2) H Q := ⟨a, _, _, v, rfl, rfl, h, atI_nat (j := 2) rfl, q⟩
theorem wp_sum (h : SqL K H a (ns.map V.int)) (q : Q (.int ns.sum) H) : rSum K [.ref a] H Q := ⟨a, ns, rfl, h, q⟩
theorem wp_list (h : SqL K H a xs) (q : ∀ l, H l = none → Q (.ref l) (upd H l (.lst xs))) : cList K [.ref a] H Q := ⟨a, xs, rfl, .inl h, q⟩
theorem wp_max2 (q : Q (.int (if j > i then j else i)) H) : cMax2 [.int i, .int j] H Q := ⟨i, j, rfl, q⟩
theorem wp_min2 (q : Q (.int (if j < i then j else i)) H) : cMin2 [.int i, .int j] H Q := ⟨i, j, rfl, q⟩
/-! ### lists -/
/-- the item at a place -/
def nth (ns : List Int) (i : Int) : Int := ns.getD i.toNat 0
theorem atI_nth (h0 : 0 ≤ i) (h1 : i < ns.length) : atI (ns.map V.int) i = some (.int (nth ns i)) := by
  have hl : i.toNat < ns.length := by omega
  unfold atI ixN nth
  rw [List.length_map, if_pos h0, if_pos h1]
  show (ns.map V.int)[i.toNat]? = _
  rw [List.getElem?_map, List.getD_eq_getElem?_getD, List.getElem?_eq_getElem hl]
  rfl
theorem atI_neg (h0 : i < 0) (h1 : 0 ≤ i + ns.length) : atI (ns.map V.int) i = some (.int (nth ns (i + ns.length))) := by
  have hl : (i + ns.length).toNat < ns.length := by omega
  unfold atI ixN nth
  rw [List.length_map, if_neg (by omega), if_pos (by omega)]
  show (ns.map V.int)[(i + ns.length).toNat]? = _
  rw [List.getElem?_map, List.getD_eq_getElem?_getD, List.getElem?_eq_getElem hl]
  rfl
theorem wp_ixL (h : SqL K H a (ns.map V.int)) (h0 : 0 ≤ i) (h1 : i < ns.length) (q : Q (.int (nth ns i)) H) : rIxL K (.ref a) (.int i) H Q :=
  ⟨a, _, i, _, rfl, rfl, h, atI_nth h0 h1, q⟩
theorem wp_ixN (h : SqL K H a (ns.map V.int)) (h0 : i < 0) (h1 : 0 ≤ i + ns.length) (q : Q (.int (nth ns (i + ns.length))) H) : rIxL K (.ref a) (.int i) H Q :=
  ⟨a, _, i, _, rfl, rfl, h, atI_neg h0 h1, q⟩
theorem wp_lst {ta : TA} (q : ta σ H (kLst Q)) : tLst ta σ H Q := q
theorem wp_tup {ta : TA} (q : ta σ H (kTup Q)) : tTup ta σ H Q := q
theorem sz (n : Nat) (h : n ≤ 100000) : n ≤ sizeLine := Nat.le_trans h (by decide)
theorem szl {n : Nat} (h : n < 100000) : n < sizeLine := Nat.lt_of_lt_of_le h (by decide)
theorem wp_lst0 (q : ∀ p, H p = none → Q (.ref p) (upd H p (.lst (([] : List Int).map V.int)))) : kLst Q [] H := ⟨Nat.zero_le _, q⟩
theorem wp_lst1 (q : ∀ p, H p = none → Q (.ref p) (upd H p (.lst (([i] : List Int).map V.int)))) : kLst Q [.int i] H := ⟨sz _ (by decide : 1 ≤ _), q⟩
theorem wp_lst2 (q : ∀ p, H p = none → Q (.ref p) (upd H p (.lst (([i, j] : List Int).map V.int)))) : kLst Q [.int i, .int j] H := ⟨sz _ (by decide : 2 ≤ _), q⟩
theorem wp_lst3 {k : Int} (q : ∀ p, H p = none → Q (.ref p) (upd H p (.lst (([i, j, k] : List Int).map V.int)))) : kLst Q [.int i, .int j, .int k] H := ⟨sz _ (by decide : 3 ≤ _), q⟩
theorem wp_lst4 {k l : Int} (q : ∀ p, H p = none → Q (.ref p) (upd H p (.lst (([i, j, k, l] : List Int).map V.int)))) : kLst Q [.int i, .int j, .int k, .int l] H := ⟨sz _ (by decide : 4 ≤ _), q⟩
theorem wp_lst5 {k l m : Int} (q : ∀ p, H p = none → Q (.ref p) (upd H p (.lst (([i, j, k, l, m] : List Int).map V.int)))) : kLst Q [.int i, .int j, .int k, .int l, .int m] H := ⟨sz _ (by decide : 5 ≤ _), q⟩
theorem wp_lstR (h : xs.length ≤ 100000) (q : ∀ p, H p = none → Q (.ref p) (upd H p (.lst xs))) : kLst Q xs H := ⟨sz _ h, q⟩
theorem wp_kTup (h : xs.length ≤ 100000) (q : ∀ p, H p = none → Q (.ref p) (upd H p (.tup xs))) : kTup Q xs H := ⟨sz _ h, q⟩
theorem wp_tBM {T : String} {r : V → List V → Hp → VK → Prop} {to : TE} {ta : TA} (q : to σ H (kBM K T r ta σ Q)) : tBM K T r to ta σ H Q := q
theorem wp_tBM0 {T : String} {r : V → List V → Hp → VK → Prop} {to : TE} (q : to σ H (kBM0 K T r Q)) : tBM0 K T r to σ H Q := q
theorem wp_kBM {r : V → List V → Hp → VK → Prop} {ta : TA} (h : H a = some (.lst xs)) (q : ta σ H fun xs H2 => r (.ref a) xs H2 Q) : kBM K "list" r ta σ Q (.ref a) H :=
  ⟨.inl ⟨rfl, _, SqL.of h⟩, q⟩
theorem wp_kBM0 {r : V → List V → Hp → VK → Prop} (h : H a = some (.lst xs)) (q : r (.ref a) [] H Q) : kBM0 K "list" r Q (.ref a) H := ⟨.inl ⟨rfl, _, SqL.of h⟩, q⟩
theorem wp_appI (h : H a = some (.lst (ns.map V.int))) (hz : ns.length < 100000) (q : Q .non (upd H a (.lst ((ns ++ [i]).map V.int)))) : rAppend (.ref a) [.int i] H Q := by
  refine ⟨a, _, _, rfl, rfl, h, szl (by rw [List.length_map]; exact hz), ?_⟩
  rw [List.map_append] at q
  exact q
theorem wp_app (h : H a = some (.lst xs)) (hz : xs.length < 100000) (q : Q .non (upd H a (.lst (xs ++ [v])))) : rAppend (.ref a) [v] H Q := ⟨a, xs, v, rfl, rfl, h, szl hz, q⟩
/-! ### slices -/
theorem wp_sl {r : V → Option Int → Option Int → Hp → VK → Prop} {tl th : TO} (q : te σ H fun x H1 => tl σ H1 fun l H2 => th σ H2 fun u H3 => r x l u H3 Q) : tSl r te tl th σ H Q := q
theorem wp_part {Q : Option Int → Hp → Prop} (q : te σ H (kPart Q)) : tPart te σ H Q := q
theorem wp_kPart {Q : Option Int → Hp → Prop} (q : Q (some i) H) : kPart Q (.int i) H := ⟨i, rfl, q⟩
theorem wp_noPart {Q : Option Int → Hp → Prop} (q : Q none H) : tNoPart σ H Q := q
/-- a slice of ints -/
def cut (ns : List Int) (lo hi : Option Int) : List Int := (ns.drop (HT.sIx ns.length 0 lo)).take (HT.sIx ns.length ns.length hi - HT.sIx ns.length 0 lo)
theorem cutV_map (lo hi : Option Int) : cutV (ns.map V.int) lo hi = (cut ns lo hi).map V.int := by
  unfold cutV cut
  rw [List.length_map, List.map_take, List.map_drop]
theorem wp_slI {lo hi : Option Int} (h : SqL K H a (ns.map V.int)) (q : ∀ p, H p = none → Q (.ref p) (upd H p (.lst ((cut ns lo hi).map V.int)))) : rSlL K (.ref a) lo hi H Q :=
  ⟨a, _, rfl, h, fun p hp => by rw [cutV_map]; exact q p hp⟩
theorem wp_slR {lo hi : Option Int} (h : SqL K H a xs) (q : ∀ p, H p = none → Q (.ref p) (upd H p (.lst (cutV xs lo hi)))) : rSlL K (.ref a) lo hi H Q := ⟨a, _, rfl, h, q⟩
def kRev (K : PySem.W.Frag) (Q : VK) : VK := fun x H1 => ∃ a xs, x = .ref a ∧ SqL K H1 a xs ∧ ∀ p, H1 p = none → Q (.ref p) (upd H1 p (.lst xs.reverse))
theorem wp_rev (q : te σ H (kRev K Q)) : tRevL K te σ H Q := q
theorem wp_revI (h : SqL K H a (ns.map V.int)) (q : ∀ p, H p = none → Q (.ref p) (upd H p (.lst (ns.reverse.map V.int)))) : kRev K Q (.ref a) H :=
  ⟨a, _, rfl, h, fun p hp => by rw [← List.map_reverse]; exact q p hp⟩
theorem wp_revR (h : SqL K H a xs) (q : ∀ p, H p = none → Q (.ref p) (upd H p (.lst xs.reverse))) : kRev K Q (.ref a) H := ⟨a, _, rfl, h, q⟩
theorem wp_catI (h : H a = some (.lst (ns.map V.int))) (h' : H b = some (.lst (ms.map V.int))) (hz : ns.length + ms.length ≤ 100000) (q : ∀ p, H p = none → Q (.ref p) (upd H p (.lst ((ns ++ ms).map V.int)))) : rCat (.ref a) (.ref b) H Q :=
  ⟨a, b, _, _, rfl, rfl, h, h', sz _ (by rw [List.length_map, List.length_map]; exact hz), fun p hp => by rw [← List.map_append]; exact q p hp⟩
theorem wp_catR (h : H a = some (.lst xs)) (h' : H b = some (.lst ys)) (hz : xs.length + ys.length ≤ 100000) (q : ∀ p, H p = none → Q (.ref p) (upd H p (.lst (xs ++ ys)))) : rCat (.ref a) (.ref b) H Q :=
  ⟨a, b, _, _, rfl, rfl, h, h', sz _ hz, q⟩
/-! ### == of lists of ints -/
theorem dpAll_ints : ∀ ns : List Int, DpAll K H (ns.map V.int) (ns.map PyData.int)
  | [] => .nil
  | n :: r => .cons (.int n) (dpAll_ints r)
theorem eqvAll_ints : ∀ ns ms : List Int, PyData.eqvAll (ns.map PyData.int) (ms.map PyData.int) = decide (ns = ms)
  | [], [] => by simp [PyData.eqvAll]
  | [], _ :: _ => by simp [PyData.eqvAll]
  | _ :: _, [] => by simp [PyData.eqvAll]
  | n :: r, m :: s => by
    simp only [List.map_cons, PyData.eqvAll, PyData.eqv, eqvAll_ints r s]
    by_cases e : n = m <;> by_cases f : r = s <;> simp [e, f]
theorem canLay_ints : ∀ ns : List Int, PyData.canLayAll0 (ns.map PyData.int) = true
  | [] => by simp [PyData.canLayAll0]
  | n :: r => by simp [PyData.canLayAll0, PyData.canLay0, canLay_ints r]
theorem depth_ints : ∀ ns : List Int, PyData.depthAll (ns.map PyData.int) = 0
  | [] => by simp [PyData.depthAll]
  | n :: r => by simp [PyData.depthAll, PyData.depth, depth_ints r]
theorem shaped_ints (ns : List Int) : SeqAt.shaped (.list (ns.map PyData.int)) = true := by
  simp [SeqAt.shaped, PyData.canLay0, PyData.depth, canLay_ints, depth_ints]
theorem wp_eqL (h : SqL K H a (ns.map V.int)) (h' : SqL K H b (ms.map V.int)) (q : Q (.bl (decide (ns = ms))) H) : rEqD K (.ref a) (.ref b) H Q := by
  refine ⟨.list (ns.map PyData.int), .list (ms.map PyData.int), .lst h (dpAll_ints ns), .lst h' (dpAll_ints ms), shaped_ints _, shaped_ints _, ?_⟩
  show Q (.bl (PyData.eqvAll _ _)) H
  rw [eqvAll_ints]
  exact q
theorem wp_neL (h : SqL K H a (ns.map V.int)) (h' : SqL K H b (ms.map V.int)) (q : Q (.bl (!decide (ns = ms))) H) : rNeD K (.ref a) (.ref b) H Q := by
  refine ⟨.list (ns.map PyData.int), .list (ms.map PyData.int), .lst h (dpAll_ints ns), .lst h' (dpAll_ints ms), shaped_ints _, shaped_ints _, ?_⟩
  show Q (.bl (!PyData.eqvAll _ _)) H
  rw [eqvAll_ints]
  exact q
/-! ### loops -/
theorem wp_for {wi : TI} {g : TG} (q : wi σ H (kFor g t D σ)) : tFor wi g t D σ H := q
theorem wp_lc {wi : TI} {g : TG} {ws : List Nat} (q : wi σ H (kLc g tt te ws σ Q)) : tLc wi g tt te ws σ H Q := q
theorem wp_iList {R : It → Hp → Prop} (q : te σ H (kIList K R)) : iList K te σ H R := q
theorem wp_kIList {R : It → Hp → Prop} (h : SqL K H a xs) (q : R (Itl K a) H) : kIList K R (.ref a) H := ⟨a, rfl, ⟨xs, h⟩, q⟩
theorem wp_iRng1 {R : It → Hp → Prop} {ta : TA} (q : ta σ H (kRng1 R)) : iRng1 ta σ H R := q
theorem wp_kRng1 {R : It → Hp → Prop} (h : -100000000 ≤ i ∧ i < 100000000) (q : R (Itr 0 i.toNat) H) : kRng1 R [.int i] H := ⟨i, rfl, by omega, by omega, q⟩
theorem wp_iRng2 {R : It → Hp → Prop} {ta : TA} (q : ta σ H (kRng2 R)) : iRng2 ta σ H R := q
theorem wp_kRng2 {R : It → Hp → Prop} (h : -100000000 ≤ i ∧ i < 100000000) (h' : -100000000 ≤ j ∧ j < 100000000) (q : R (Itr i (j - i).toNat) H) : kRng2 R [.int i, .int j] H := ⟨i, j, rfl, by omega, q⟩
theorem wp_iEnum {R : It → Hp → Prop} {ta : TA} (q : ta σ H (kEnum K R)) : iEnum K ta σ H R := q
theorem wp_kEnum {R : It → Hp → Prop} (h : SqL K H a xs) (q : R (Ite K a) H) : kEnum K R [.ref a] H := ⟨a, xs, rfl, h, q⟩
theorem wp_gName {n : Nat} {Q : L2.St → Hp → Prop} (h : σ.set n (some v) = σ') (q : Q σ' H) : gName n v σ H Q := by
  show Q (σ.set n (some v)) H
  rw [h]
  exact q
theorem wp_gTup {n : Nat} {g : TGs} {Q : L2.St → Hp → Prop} (h : SqT K H a xs) (hl : xs.length = n) (q : g xs σ H Q) : gTup K n g (.ref a) σ H Q := ⟨a, xs, rfl, h, hl, q⟩
theorem wp_gCons {g : TG} {gs : TGs} {Q : L2.St → Hp → Prop} (q : g v σ H fun σ' H' => gs xs σ' H' Q) : gCons g gs (v :: xs) σ H Q := ⟨v, xs, rfl, q⟩
theorem wp_gNil {Q : L2.St → Hp → Prop} (q : Q σ H) : gNil [] σ H Q := ⟨rfl, q⟩
/-- a for over a list of ints -/
theorem forI {g : TG} (Pv : Nat → L2.St → Hp → Prop) (h0 : Pv 0 σ H) (hl : ∀ i σ' H', i ≤ ns.length → Pv i σ' H' → SqL K H' a (ns.map V.int))
    (hs : ∀ (i : Nat) σ' H', i < ns.length → Pv i σ' H' → g (.int (nth ns i)) σ' H' fun σ2 H2 => t { D with nx := Pv (i + 1), ct := Pv (i + 1), bk := D.nx } σ2 H2) (hd : ∀ σ' H', Pv ns.length σ' H' → D.nx σ' H') : kFor g t D σ (Itl K a) H := by
  refine for_list (K := K) (a := a) (xs := ns.map V.int) Pv h0 (fun i σ' H' hi p => hl i σ' H' (by rw [List.length_map] at hi; exact hi) p) (fun i x σ' H' e p => ?_) (fun σ' H' p => hd σ' H' (by rw [List.length_map] at p; exact p))
  have hi : i < ns.length := by
    have := (List.getElem?_eq_some_iff.mp e).1
    rw [List.length_map] at this
    exact this
  have ex : x = .int (nth ns i) := by
    have q := atI_nth (ns := ns) (i := (i : Int)) (by omega) (by omega)
    unfold nth
    rw [List.getElem?_map, List.getElem?_eq_getElem hi] at e
    rw [← Option.some.inj e]
    simp [List.getD_eq_getElem?_getD, hi]
  subst ex
  exact hs i σ' H' hi p
/-- a for over a list of anything -/
theorem forR {g : TG} (Pv : Nat → L2.St → Hp → Prop) (h0 : Pv 0 σ H) (hl : ∀ i σ' H', i ≤ xs.length → Pv i σ' H' → SqL K H' a xs)
    (hs : ∀ (i : Nat) x σ' H', xs[i]? = some x → Pv i σ' H' → g x σ' H' fun σ2 H2 => t { D with nx := Pv (i + 1), ct := Pv (i + 1), bk := D.nx } σ2 H2) (hd : ∀ σ' H', Pv xs.length σ' H' → D.nx σ' H') : kFor g t D σ (Itl K a) H :=
  for_list (K := K) (a := a) (xs := xs) Pv h0 hl hs hd
theorem forN {g : TG} {lo : Int} {n : Nat} (Pv : Nat → L2.St → Hp → Prop) (h0 : Pv 0 σ H)
    (hs : ∀ (i : Nat) σ' H', i < n → Pv i σ' H' → g (.int (lo + i)) σ' H' fun σ2 H2 => t { D with nx := Pv (i + 1), ct := Pv (i + 1), bk := D.nx } σ2 H2) (hd : ∀ σ' H', Pv n σ' H' → D.nx σ' H') : kFor g t D σ (Itr lo n) H :=
  for_range Pv h0 hs hd
/-- a for over enumerate of a list of ints -/
theorem forE {g : TG} (Pv : Nat → L2.St → Hp → Prop) (h0 : Pv 0 σ H) (hl : ∀ i σ' H', i ≤ ns.length → Pv i σ' H' → SqL K H' a (ns.map V.int))
    (hs : ∀ (i : Nat) σ' H' T, i < ns.length → Pv i σ' H' → H' T = none → g (.ref T) σ' (upd H' T (.tup [.int i, .int (nth ns i)])) fun σ2 H2 => t { D with nx := Pv (i + 1), ct := Pv (i + 1), bk := D.nx } σ2 H2) (hd : ∀ σ' H', Pv ns.length σ' H' → D.nx σ' H') : kFor g t D σ (Ite K a) H := by
  refine for_it (walk_enum (K := K) (a := a) (xs := ns.map V.int)) Pv h0 (fun i σ' H' hi p => hl i σ' H' (by rw [List.length_map] at hi; exact hi) p) (fun i x σ' H' H2 hi p y => ?_) (fun σ' H' p => hd σ' H' (by rw [List.length_map] at p; exact p))
  rw [List.length_map] at hi
  obtain ⟨T, x1, y1, rfl, hn, rfl, e1, e2⟩ := y
  have e1' : x1 = .int i := (Option.some.inj e1).symm
  have ey : y1 = .int (nth ns i) := by
    unfold nth
    have e2' : (ns.map V.int)[i]? = some y1 := e2
    rw [List.getElem?_map, List.getElem?_eq_getElem hi] at e2'
    rw [← Option.some.inj e2']
    simp [List.getD_eq_getElem?_getD, hi]
  subst e1' ey
  exact hs i σ' H' T hi p hn
/-- a for over enumerate of a list of anything -/
theorem forER {g : TG} (Pv : Nat → L2.St → Hp → Prop) (h0 : Pv 0 σ H) (hl : ∀ i σ' H', i ≤ xs.length → Pv i σ' H' → SqL K H' a xs)
    (hs : ∀ (i : Nat) x σ' H' T, xs[i]? = some x → Pv i σ' H' → H' T = none → g (.ref T) σ' (upd H' T (.tup [.int i, x])) fun σ2 H2 => t { D with nx := Pv (i + 1), ct := Pv (i + 1), bk := D.nx } σ2 H2) (hd : ∀ σ' H', Pv xs.length σ' H' → D.nx σ' H') : kFor g t D σ (Ite K a) H := by
  refine for_it (walk_enum (K := K) (a := a) (xs := xs)) Pv h0 hl (fun i x σ' H' H2 hi p y => ?_) hd
  obtain ⟨T, x1, y1, rfl, hn, rfl, e1, e2⟩ := y
  cases Option.some.inj e1
  exact hs i y1 σ' H' T e2 p hn
/-- while True: a word with a number that falls; nothing that stood is changed -/
theorem whileTS (R : Nat → L2.St → Prop) (m0 : Nat) (h0 : R m0 σ)
    (hs : ∀ (m : Nat) σ' H', R m σ' → Same H H' → t { D with nx := fun σ2 H2 => ∃ m', m' < m ∧ R m' σ2 ∧ Same H H2, ct := fun σ2 H2 => ∃ m', m' < m ∧ R m' σ2 ∧ Same H H2, bk := D.nx } σ' H') : tWhile (tB (tC (.bl true))) t D σ H := by
  refine ⟨fun m σ' H' => R m σ' ∧ Same H H', ⟨m0, h0, Same.refl H⟩, ?_⟩
  rintro m σ' H' ⟨r, s⟩
  refine ⟨true, rfl, ?_⟩
  exact ⟨_, fun σ2 H2 z => z, hs m σ' H' r s⟩
/-- loops that change nothing that stood: the word speaks of the slots alone -/
theorem forIS {g : TG} (ha : SqL K H a (ns.map V.int)) (R : Nat → L2.St → Prop) (h0 : R 0 σ)
    (hs : ∀ (i : Nat) σ' H', i < ns.length → R i σ' → Same H H' → g (.int (nth ns i)) σ' H' fun σ2 H2 => t { D with nx := fun σ3 H3 => R (i + 1) σ3 ∧ Same H H3, ct := fun σ3 H3 => R (i + 1) σ3 ∧ Same H H3, bk := D.nx } σ2 H2)
    (hd : ∀ σ' H', R ns.length σ' → Same H H' → D.nx σ' H') : kFor g t D σ (Itl K a) H :=
  forI (ns := ns) (fun i σ' H' => R i σ' ∧ Same H H') ⟨h0, Same.refl H⟩ (fun i σ' H' _ p => p.2.seq ha) (fun i σ' H' hi p => hs i σ' H' hi p.1 p.2) (fun σ' H' p => hd σ' H' p.1 p.2)
theorem forRS {g : TG} (ha : SqL K H a xs) (R : Nat → L2.St → Prop) (h0 : R 0 σ)
    (hs : ∀ (i : Nat) x σ' H', xs[i]? = some x → R i σ' → Same H H' → g x σ' H' fun σ2 H2 => t { D with nx := fun σ3 H3 => R (i + 1) σ3 ∧ Same H H3, ct := fun σ3 H3 => R (i + 1) σ3 ∧ Same H H3, bk := D.nx } σ2 H2)
    (hd : ∀ σ' H', R xs.length σ' → Same H H' → D.nx σ' H') : kFor g t D σ (Itl K a) H :=
  forR (xs := xs) (fun i σ' H' => R i σ' ∧ Same H H') ⟨h0, Same.refl H⟩ (fun i σ' H' _ p => p.2.seq ha) (fun i x σ' H' hi p => hs i x σ' H' hi p.1 p.2) (fun σ' H' p => hd σ' H' p.1 p.2)
theorem forNS {g : TG} {lo : Int} {n : Nat} (R : Nat → L2.St → Prop) (h0 : R 0 σ)
    (hs : ∀ (i : Nat) σ' H', i < n → R i σ' → Same H H' → g (.int (lo + i)) σ' H' fun σ2 H2 => t { D with nx := fun σ3 H3 => R (i + 1) σ3 ∧ Same H H3, ct := fun σ3 H3 => R (i + 1) σ3 ∧ Same H H3, bk := D.nx } σ2 H2)
    (hd : ∀ σ' H', R n σ' → Same H H' → D.nx σ' H') : kFor g t D σ (Itr lo n) H :=
  forN (fun i σ' H' => R i σ' ∧ Same H H') ⟨h0, Same.refl H⟩ (fun i σ' H' hi p => hs i σ' H' hi p.1 p.2) (fun σ' H' p => hd σ' H' p.1 p.2)
theorem forES {g : TG} (ha : SqL K H a (ns.map V.int)) (R : Nat → L2.St → Prop) (h0 : R 0 σ)
    (hs : ∀ (i : Nat) σ' H' T, i < ns.length → R i σ' → Same H H' → H' T = none → g (.ref T) σ' (upd H' T (.tup [.int i, .int (nth ns i)])) fun σ2 H2 => t { D with nx := fun σ3 H3 => R (i + 1) σ3 ∧ Same H H3, ct := fun σ3 H3 => R (i + 1) σ3 ∧ Same H H3, bk := D.nx } σ2 H2)
    (hd : ∀ σ' H', R ns.length σ' → Same H H' → D.nx σ' H') : kFor g t D σ (Ite K a) H :=
  forE (ns := ns) (fun i σ' H' => R i σ' ∧ Same H H') ⟨h0, Same.refl H⟩ (fun i σ' H' _ p => p.2.seq ha) (fun i σ' H' T hi p nT => hs i σ' H' T hi p.1 p.2 nT) (fun σ' H' p => hd σ' H' p.1 p.2)
end
end Bs

namespace Bs
open PySem L2
/-- the classes' addresses -/
structure Cs where
  Answer : Addr := 0
  Best : Addr := 0
  Steep : Addr := 0
  Around : Addr := 0
  Exact : Addr := 0
  Never : Addr := 0
  Several : Addr := 0
  StretchError : Addr := 0
  BadRow : Addr := 0
  BadLeast : Addr := 0
  BadTotal : Addr := 0
  BadMany : Addr := 0
/-- a law's promise -/
def spLaw (K : PySem.W.Frag) : Sp := fun vs H Q _ => ∃ (a : Addr) (ns : List Int), vs = [.ref a] ∧ SqL K H a (ns.map V.int) ∧ ns.length ≤ 63 ∧ ∀ H', Q (.bl true) H'
theorem len1 {vs : List V} {a : V} (h : vs = [a]) : vs.length = 1 := by rw [h]; rfl

section
variable {K : PySem.W.Frag} {σ σ' : L2.St} {H H' : Hp} {Q : VK} {QB : Bool → Hp → Prop} {ta tb te : TE} {tt uu : TT} {t u : TS} {D : Ends} {v x y : V} {i j : Int} {r : R2} {a b p : Addr} {ns ms : List Int} {xs ys vs : List V} {c d : Bool}
/-! ### comprehensions -/
theorem lcW {J : It} {n : Nat} {G : Hp → Prop} {X : Nat → V} {g : TG} {ws : List Nat} {σi : Nat → L2.St} (w : Walk J n G (fun i H x H' => H' = H ∧ x = X i)) (b : Nat → Bool) (v : Nat → V) (hn : n ≤ 100000)
    (hG : ∀ H', Same H H' → G H') (hg : ∀ i H' k, k (σi i) H' → g (X i) (wipe σ ws) H' k) (hw : ∀ i, wipe (σi i) ws = wipe σ ws)
    (ht : ∀ i H', i < n → Same H H' → ∀ Q' : Bool → Hp → Prop, (∀ H'', Same H' H'' → Q' (b i) H'') → tt (σi i) H' Q')
    (he : ∀ i H', i < n → b i = true → Same H H' → ∀ Q' : VK, (∀ H'', Same H' H'' → Q' (v i) H'') → te (σi i) H' Q')
    (q : ∀ p H', H p = none → Same H H' → H' p = some (.lst (((List.range n).filter b).map v)) → Q (.ref p) H') : kLc g tt te ws σ Q J H := by
  intro D hD
  refine lc_it w (Qd := fun H' => Q (.ref D) H') (fun i H' => Same H H' ∧ H' D = some (.lst (((List.range i).filter b).map v))) ⟨same_new (Same.refl H) hD, upd_same⟩ (fun i H' _ p => hG H' p.1) ?_ (fun H' p => q D H' hD p.1 p.2)
  rintro i x H1 H2 hi ⟨s1, d1⟩ ⟨rfl, rfl⟩
  refine hg i _ _ ⟨hw i, ht i H2 hi s1 _ fun H3 s3 => ?_⟩
  have d3 := s3 _ _ d1
  have e : ((List.range (i + 1)).filter b).map v = if b i = true then ((List.range i).filter b).map v ++ [v i] else ((List.range i).filter b).map v := by
    rw [List.range_succ, List.filter_append, List.map_append]
    cases hb : b i <;> simp [hb]
  by_cases hb : b i = true
  · rw [if_pos hb] at e
    rw [if_pos hb]
    refine he i H3 hi hb (s1.trans s3) _ fun H4 s4 => ⟨_, s4 _ _ d3, szl ?_, same_mut ((s1.trans s3).trans s4) hD, ?_⟩
    · rw [List.length_map]
      have := List.length_filter_le b (List.range i)
      rw [List.length_range] at this
      omega
    · rw [e]
      exact upd_same
  · rw [if_neg hb] at e
    rw [if_neg hb, e]
    exact ⟨s1.trans s3, d3⟩
theorem map_range_nth {α : Type} (f : Int → α) (ns : List Int) : (List.range ns.length).map (fun i : Nat => f (nth ns i)) = ns.map f := by
  apply List.ext_getElem
  · simp
  · intro i h1 h2
    simp at h1
    simp [nth, h1]
theorem walkI {ns : List Int} : Walk (Itl K a) ns.length (fun H => SqL K H a (ns.map V.int)) (fun i H x H' => H' = H ∧ x = .int (nth ns i)) := by
  have w := walk_list (K := K) (a := a) (xs := ns.map V.int)
  rw [List.length_map] at w
  refine w.mono (fun _ h => h) fun i H x H' hi _ y => ⟨y.1, ?_⟩
  have e := y.2
  rw [List.getElem?_map, List.getElem?_eq_getElem hi] at e
  rw [← Option.some.inj e]
  simp [nth, hi]
/-- over a list of ints, each item's value by f -/
theorem lcI {k : Nat} (f : Int → V) (h : SqL K H a (ns.map V.int)) (hn : ns.length ≤ 100000) (hw : ∀ x : V, wipe ((wipe σ [k]).set k (some x)) [k] = wipe σ [k])
    (he : ∀ (i : Nat) H', i < ns.length → Same H H' → ∀ Q' : VK, (∀ H'', Same H' H'' → Q' (f (nth ns i)) H'') → te ((wipe σ [k]).set k (some (.int (nth ns i)))) H' Q')
    (q : ∀ p H', H p = none → Same H H' → H' p = some (.lst (ns.map f)) → Q (.ref p) H') : kLc (gName k) tYes te [k] σ Q (Itl K a) H := by
  refine lcW (σi := fun i => (wipe σ [k]).set k (some (.int (nth ns i)))) (walkI (ns := ns)) (fun _ => true) (fun i => f (nth ns i)) hn (fun H' s => s.seq h) (fun i H' k' z => z) (fun i => hw _) (fun i H' _ _ Q' z => z H' (Same.refl H')) (fun i H' hi _ s => he i H' hi s) fun p H' np s hp => ?_
  refine q p H' np s ?_
  rw [hp, ← map_range_nth f ns]
  congr 2
  rw [List.filter_eq_self.mpr (fun _ _ => rfl)]
theorem lcI_int {k : Nat} (f : Int → Int) (h : SqL K H a (ns.map V.int)) (hn : ns.length ≤ 100000) (hw : ∀ x : V, wipe ((wipe σ [k]).set k (some x)) [k] = wipe σ [k])
    (he : ∀ (i : Nat) H', i < ns.length → Same H H' → ∀ Q' : VK, (∀ H'', Same H' H'' → Q' (.int (f (nth ns i))) H'') → te ((wipe σ [k]).set k (some (.int (nth ns i)))) H' Q')
    (q : ∀ p H', H p = none → Same H H' → H' p = some (.lst ((ns.map f).map V.int)) → Q (.ref p) H') : kLc (gName k) tYes te [k] σ Q (Itl K a) H :=
  lcI (fun n => .int (f n)) h hn hw he fun p H' np s hp => q p H' np s (by rw [hp, List.map_map]; rfl)
theorem lcI_bl {k : Nat} (f : Int → Bool) (h : SqL K H a (ns.map V.int)) (hn : ns.length ≤ 100000) (hw : ∀ x : V, wipe ((wipe σ [k]).set k (some x)) [k] = wipe σ [k])
    (he : ∀ (i : Nat) H', i < ns.length → Same H H' → ∀ Q' : VK, (∀ H'', Same H' H'' → Q' (.bl (f (nth ns i))) H'') → te ((wipe σ [k]).set k (some (.int (nth ns i)))) H' Q')
    (q : ∀ p H', H p = none → Same H H' → H' p = some (.lst ((ns.map f).map V.bl)) → Q (.ref p) H') : kLc (gName k) tYes te [k] σ Q (Itl K a) H :=
  lcI (fun n => .bl (f n)) h hn hw he fun p H' np s hp => q p H' np s (by rw [hp, List.map_map]; rfl)
/-- over a range, each turn's value by f -/
theorem lcN {k : Nat} {lo : Int} {n : Nat} (f : Nat → V) (hn : n ≤ 100000) (hw : ∀ x : V, wipe ((wipe σ [k]).set k (some x)) [k] = wipe σ [k])
    (he : ∀ (i : Nat) H', i < n → Same H H' → ∀ Q' : VK, (∀ H'', Same H' H'' → Q' (f i) H'') → te ((wipe σ [k]).set k (some (.int (lo + i)))) H' Q')
    (q : ∀ p H', H p = none → Same H H' → H' p = some (.lst ((List.range n).map f)) → Q (.ref p) H') : kLc (gName k) tYes te [k] σ Q (Itr lo n) H := by
  refine lcW (σi := fun i => (wipe σ [k]).set k (some (.int (lo + i)))) (walk_range (lo := lo) (n := n)) (fun _ => true) f hn (fun _ _ => trivial) (fun i H' k' z => z) (fun i => hw _) (fun i H' _ _ Q' z => z H' (Same.refl H')) (fun i H' hi _ s => he i H' hi s) fun p H' np s hp => ?_
  refine q p H' np s ?_
  rw [hp, List.filter_eq_self.mpr (fun _ _ => rfl)]
/-- if c: x = e, x an int -/
theorem wp_kIfSetI {n : Nat} {old new : Int} (h : σ[n]? = some (some (.int old))) (he : c = true → ∀ Q' : VK, Q' (.int new) H → te σ H Q') (q : ∀ z : Int, z = (if c = true then new else old) → D.nx (σ.set n (some (.int z))) H) : kIfS (tAsg te (gName n)) tNext D σ c H := by
  cases c with
  | true => exact he rfl _ (q new (by rw [if_pos rfl]))
  | false =>
    have e : σ.set n (some (.int old)) = σ := by
      obtain ⟨hn, e⟩ := List.getElem?_eq_some_iff.mp h
      rw [← e, List.set_getElem_self]
    have z := q old (by rw [if_neg (by decide)])
    rw [e] at z
    exact z
/-- reversed(range(n)) -/
def kRev1 (R : It → Hp → Prop) : VK := fun x H1 => ∃ n : Int, x = .int n ∧ (-(2 ^ 62) ≤ (0 : Int) ∧ (0 : Int) < 2 ^ 62 ∧ -(2 ^ 62) ≤ n ∧ n < 2 ^ 62 ∧ R (Itc (0 + (((n - 0).toNat : Nat) : Int) - 1) (-1) (n - 0).toNat) H1)
theorem wp_iRevR1 {R : It → Hp → Prop} (q : ta σ H (kRev1 R)) : iRevR (tRg1 ta) σ H R := q
theorem wp_kRev1 {R : It → Hp → Prop} {n : Nat} (h : n ≤ 100000) (q : R (Itc ((n : Int) - 1) (-1) n) H) : kRev1 R (.int n) H := by
  have e : ((n : Int) - 0).toNat = n := by omega
  refine ⟨n, rfl, by omega, by omega, by omega, by omega, ?_⟩
  rw [e, Int.zero_add]
  exact q
theorem forRev {g : TG} {n : Nat} (Pv : Nat → L2.St → Hp → Prop) (h0 : Pv 0 σ H)
    (hs : ∀ (i : Nat) σ' H', i < n → Pv i σ' H' → g (.int ((n - 1 - i : Nat) : Int)) σ' H' fun σ2 H2 => t { D with nx := Pv (i + 1), ct := Pv (i + 1), bk := D.nx } σ2 H2) (hd : ∀ σ' H', Pv n σ' H' → D.nx σ' H') : kFor g t D σ (Itc ((n : Int) - 1) (-1) n) H :=
  for_rangeC Pv h0 (fun i σ' H' hi p => by
    have e : ((n : Int) - 1) + (i : Nat) * (-1) = ((n - 1 - i : Nat) : Int) := by omega
    rw [e]
    exact hs i σ' H' hi p) hd
theorem wp_tYes {Q : Bool → Hp → Prop} (q : Q true H) : tYes σ H Q := q
/-! ### all, any, isinstance -/
theorem wp_all {bs : List Bool} (h : H a = some (.lst (bs.map V.bl))) (q : Q (.bl (bs.all id)) H) : rAll K [.ref a] H Q := ⟨a, bs, rfl, SqL.of h, q⟩
theorem wp_any {bs : List Bool} (h : H a = some (.lst (bs.map V.bl))) (q : Q (.bl (bs.any id)) H) : rAny K [.ref a] H Q := ⟨a, bs, rfl, SqL.of h, q⟩
theorem isi_int (q : Q (.bl true) H) : rIsi K [.int i, .ty "int"] H Q := ⟨_, _, _, _, true, rfl, .ty _, .base (.int i), kit_ty (by decide +kernel), q⟩
theorem isi_int_bool (q : Q (.bl false) H) : rIsi K [.int i, .ty "bool"] H Q := ⟨_, _, _, _, false, rfl, .ty _, .base (.int i), kit_ty (by decide +kernel), q⟩
theorem isi_bool (q : Q (.bl true) H) : rIsi K [.bl c, .ty "bool"] H Q := ⟨_, _, _, _, true, rfl, .ty _, .base (.bl c), kit_ty (by decide +kernel), q⟩
theorem isi_list (h : H a = some (.lst xs)) (q : Q (.bl true) H) : rIsi K [.ref a, .ty "list"] H Q := ⟨_, _, _, _, true, rfl, .ty _, .base (.lst h), kit_ty (by decide +kernel), q⟩
theorem isi_tup (h : H a = some (.tup xs)) (q : Q (.bl true) H) : rIsi K [.ref a, .ty "tuple"] H Q := ⟨_, _, _, _, true, rfl, .ty _, .base (.tup h), kit_ty (by decide +kernel), q⟩
/-! ### dicts of ints -/
def kD2 (ty tx : TE) (σ : L2.St) (Q : VK) : VK := fun x H1 => ∃ a, x = .ref a ∧ IsD H1 a ∧ ty σ H1 fun y H2 => tx σ H2 fun z H3 => ∃ o, DGet H3 a y o ∧ Q (o.getD z) H3
theorem wp_dget2 {td ty tx : TE} (q : td σ H (kD2 ty tx σ Q)) : tDGet2 td ty tx σ H Q := q
theorem wp_kD2 {kvs : List (Key × V)} {ty tx : TE} {n m : Int} (h : H a = some (.dK kvs)) (hy : ∀ Q' : VK, Q' (.int n) H → ty σ H Q') (hx : ∀ Q' : VK, Q' (.int m) H → tx σ H Q') (q : Q ((valV kvs (.inl n)).getD (.int m)) H) : kD2 ty tx σ Q (.ref a) H :=
  ⟨a, rfl, .inl ⟨kvs, .inl h⟩, hy _ (hx _ ⟨_, DGet.k (k := Sum.inl n) h, q⟩)⟩
def kPut (ty : TE) (D : Ends) (σ : L2.St) (td : TE) : VK := fun v H1 => td σ H1 fun x H2 => ty σ H2 fun y H3 => ∃ a H4, x = .ref a ∧ DPut H3 a y v H4 ∧ D.nx σ H4
theorem wp_dput {td ty tv : TE} (q : tv σ H (kPut ty D σ td)) : sDPut td ty tv D σ H := q
def kPut2 (v : V) (D : Ends) (σ : L2.St) : V → V → Hp → Prop := fun x y H3 => ∃ a H4, x = .ref a ∧ DPut H3 a y v H4 ∧ D.nx σ H4
theorem wp_kPut {td ty : TE} (q : td σ H fun x H2 => ty σ H2 fun y H3 => kPut2 v D σ x y H3) : kPut ty D σ td v H := q
theorem wp_kPut2 {kvs : List (Key × V)} {n : Int} (h : H a = some (.dK kvs)) (hl : kvs.length < 100000) (q : D.nx σ (upd H a (.dK (putK kvs (.inl n) v)))) : kPut2 v D σ (.ref a) (.int n) H :=
  ⟨a, _, rfl, DPut.k (k := Sum.inl n) h (szl hl), q⟩
theorem wp_dnew (q : ∀ p, H p = none → Q (.ref p) (upd H p (.dK []))) : tDNewK σ H Q := q
def kIn (Q : VK) : V → V → Hp → Prop := fun y x H2 => ∃ a o, x = .ref a ∧ DGet H2 a y o ∧ Q (.bl o.isSome) H2
def kNin (Q : VK) : V → V → Hp → Prop := fun y x H2 => ∃ a o, x = .ref a ∧ DGet H2 a y o ∧ Q (.bl (!o.isSome)) H2
theorem wp_din {ty td : TE} (q : ty σ H fun y H1 => td σ H1 fun x H2 => kIn Q y x H2) : tDIn ty td σ H Q := q
theorem wp_dnin {ty td : TE} (q : ty σ H fun y H1 => td σ H1 fun x H2 => kNin Q y x H2) : tDNotIn ty td σ H Q := q
theorem wp_kIn {kvs : List (Key × V)} {n : Int} (h : Rd H a (.dK kvs)) (q : Q (.bl (valV kvs (.inl n)).isSome) H) : kIn Q (.int n) (.ref a) H := ⟨a, _, rfl, .inl ⟨kvs, .inl n, h, rfl, rfl⟩, q⟩
theorem wp_kNin {kvs : List (Key × V)} {n : Int} (h : Rd H a (.dK kvs)) (q : Q (.bl (!(valV kvs (.inl n)).isSome)) H) : kNin Q (.int n) (.ref a) H := ⟨a, _, rfl, .inl ⟨kvs, .inl n, h, rfl, rfl⟩, q⟩
def kGet (Q : VK) : V → V → Hp → Prop := fun x y H2 => ∃ a v, x = .ref a ∧ DGet H2 a y (some v) ∧ Q v H2
theorem wp_dget {td ty : TE} (q : td σ H fun x H1 => ty σ H1 fun y H2 => kGet Q x y H2) : tDGet td ty σ H Q := q
theorem wp_kGet {kvs : List (Key × V)} {n : Int} (h : Rd H a (.dK kvs)) (e : valV kvs (.inl n) = some v) (q : Q v H) : kGet Q (.ref a) (.int n) H := ⟨a, v, rfl, .inl ⟨kvs, .inl n, h, rfl, e.symm⟩, q⟩
theorem putK_len' (kvs : List (Key × V)) (k : Key) (x : V) : (putK kvs k x).length ≤ kvs.length + 1 := by
  unfold putK
  split
  · simp
  · simp
end

/-! ### sums from the beginning -/
def pre (ns : List Int) (i : Nat) : Int := (ns.take i).sum
/-- all of them -/
def psums (ns : List Int) : List Int := (List.range (ns.length + 1)).map (pre ns)
def psumsTo (ns : List Int) (i : Nat) : List Int := (List.range (i + 1)).map (pre ns)
theorem psumsTo_zero (ns : List Int) : psumsTo ns 0 = [0] := by simp [psumsTo, pre]
theorem psumsTo_all (ns : List Int) : psumsTo ns ns.length = psums ns := rfl
theorem psums_length (ns : List Int) : (psums ns).length = ns.length + 1 := by simp [psums]
theorem psumsTo_length (ns : List Int) (i : Nat) : (psumsTo ns i).length = i + 1 := by simp [psumsTo]
theorem pre_zero (ns : List Int) : pre ns 0 = 0 := by simp [pre]
theorem pre_succ {ns : List Int} {i : Nat} (h : i < ns.length) : pre ns (i + 1) = pre ns i + nth ns i := by
  have e : ns[i]? = some (nth ns i) := by simp [nth, h]
  exact sum_take e
theorem nth_psumsTo (ns : List Int) {i j : Nat} (h : j ≤ i) : nth (psumsTo ns i) j = pre ns j := by
  unfold nth psumsTo
  have : j < i + 1 := by omega
  simp [this]
theorem nth_psums (ns : List Int) {j : Nat} (h : j ≤ ns.length) : nth (psums ns) j = pre ns j := nth_psumsTo ns h
theorem psumsTo_succ {ns : List Int} {i : Nat} (h : i < ns.length) : psumsTo ns (i + 1) = psumsTo ns i ++ [pre ns i + nth ns i] := by
  unfold psumsTo
  rw [List.range_succ, List.map_append, ← pre_succ h]
  try rfl
theorem psums_nil : psums [] = [0] := by simp [psums, pre]
theorem psums_cons (n : Int) (r : List Int) : psums (n :: r) = 0 :: (psums r).map (n + ·) := by
  unfold psums
  rw [List.length_cons, List.range_succ_eq_map, List.map_cons, List.map_map, List.map_map, pre_zero]
  congr 1
theorem psums_neg (r : List Int) : psums (r.map (- ·)) = (psums r).map (- ·) := by
  induction r with
  | nil => simp [psums_nil]
  | cons n r ih =>
    rw [List.map_cons, psums_cons, psums_cons, ih, List.map_cons, List.map_map, List.map_map]
    congr 1
    apply List.map_congr_left
    intro x _
    simp
    omega
theorem psums_snoc (r : List Int) (n : Int) : psums (r ++ [n]) = psums r ++ [r.sum + n] := by
  unfold psums
  rw [List.length_append, List.length_singleton, List.range_succ, List.map_append]
  congr 1
  · apply List.map_congr_left
    intro i hi
    rw [List.mem_range] at hi
    unfold pre
    rw [List.take_append_of_le_length (by omega)]
  · have : (r ++ [n]).take (r.length + 1) = r ++ [n] := List.take_of_length_le (by simp)
    simp [pre, this]
theorem psums_rev (r : List Int) : psums r.reverse = (psums r).reverse.map (r.sum - ·) := by
  induction r with
  | nil => simp [psums_nil]
  | cons n r ih =>
    rw [List.reverse_cons, psums_snoc, ih, psums_cons, List.reverse_cons, List.map_append, List.sum_cons, ← List.map_reverse, List.map_map]
    congr 1
    · apply List.map_congr_left
      intro x _
      simp
      omega
    · have e : ∀ l : List Int, l.reverse.sum = l.sum := fun l => by
        induction l with
        | nil => rfl
        | cons x l ih => rw [List.reverse_cons, List.sum_append, ih]; simp; omega
      simp
      omega
/-! ### how many pairs part by t -/
def pairs (t : Int) : List Int → Int
  | [] => 0
  | x :: r => (r.count (x + t) : Int) + pairs t r
theorem pairs_snoc (t : Int) (l : List Int) (y : Int) : pairs t (l ++ [y]) = pairs t l + (l.count (y - t) : Int) := by
  induction l with
  | nil => simp [pairs]
  | cons x r ih =>
    rw [List.cons_append, pairs, pairs, ih, List.count_append]
    simp only [List.count_cons, List.count_nil, beq_iff_eq]
    by_cases e : x + t = y
    · rw [if_pos e.symm, if_pos (show x = y - t by omega)]
      omega
    · rw [if_neg (fun z => e z.symm), if_neg (show ¬ x = y - t by omega)]
      omega
theorem count_map_of {f : Int → Int} (hf : ∀ x y, f x = f y → x = y) (l : List Int) (x : Int) : (l.map f).count (f x) = l.count x := by
  induction l with
  | nil => rfl
  | cons y r ih =>
    rw [List.map_cons, List.count_cons, List.count_cons, ih]
    by_cases e : y = x
    · simp [e]
    · have e2 : ¬ f y = f x := fun z => e (hf _ _ z)
      simp [e, e2]
theorem pairs_neg (t : Int) (l : List Int) : pairs (-t) (l.map (- ·)) = pairs t l := by
  induction l with
  | nil => rfl
  | cons x r ih =>
    rw [List.map_cons, pairs, pairs, ih]
    have e : -x + -t = -(x + t) := by omega
    rw [e, count_map_of (f := (- ·)) (fun a b h => by simp at h; exact h)]
theorem count_rev (l : List Int) (x : Int) : l.reverse.count x = l.count x := by
  induction l with
  | nil => rfl
  | cons y r ih =>
    rw [List.reverse_cons, List.count_append, ih]
    simp only [List.count_cons, List.count_nil]
    omega
theorem pairs_rev (t S : Int) (l : List Int) : pairs t (l.reverse.map (S - ·)) = pairs t l := by
  induction l with
  | nil => rfl
  | cons x r ih =>
    rw [List.reverse_cons, List.map_append, List.map_cons, List.map_nil, pairs_snoc, ih, pairs]
    have e : S - x - t = S - (x + t) := by omega
    rw [e, count_map_of (f := (S - ·)) (fun a b h => by simp at h; omega), count_rev]
    omega
/-- how many stretches have the sum t -/
def cntOf (ns : List Int) (t : Int) : Int := pairs t (psums ns)
theorem cntOf_neg (ns : List Int) (t : Int) : cntOf (ns.map (- ·)) (-t) = cntOf ns t := by
  unfold cntOf
  rw [psums_neg, pairs_neg]
theorem cntOf_rev (ns : List Int) (t : Int) : cntOf ns.reverse t = cntOf ns t := by
  unfold cntOf
  rw [psums_rev, pairs_rev]
/-! ### a dict that counts -/
def CntD (kvs : List (Key × V)) (l : List Int) : Prop := (∀ v : Int, (valV kvs (.inl v)).getD (.int 0) = .int (l.count v)) ∧ kvs.length ≤ l.length
theorem cntD_nil : CntD [] [] := ⟨fun v => by simp [valV_nil], by simp⟩
theorem cntD_put {kvs : List (Key × V)} {l l' : List Int} {y : Int} (h : CntD kvs l) (hl : ∀ v, l'.count v = l.count v + if v = y then 1 else 0) (hn : l'.length = l.length + 1) :
    CntD (putK kvs (.inl y) (.int ((l.count y : Int) + 1))) l' := by
  refine ⟨fun v => ?_, ?_⟩
  · rw [valV_put, hl v]
    by_cases e : v = y
    · subst e
      simp
    · have : ¬ (Sum.inl v : Key) = Sum.inl y := fun z => e (Sum.inl.inj z)
      rw [if_neg this, if_neg e, h.1 v]
      simp
  · have := putK_len' kvs (.inl y) (.int ((l.count y : Int) + 1))
    have := h.2
    omega
/-! ### the law's row -/
def lmost (ns : List Int) : Int := nth [3, 10, 10, 1000000] (ns.sum % 4)
def lrow (ns : List Int) : List Int := ns.map fun c => c % (2 * lmost ns + 1) - lmost ns
theorem lmost_cases (ns : List Int) : lmost ns = 3 ∨ lmost ns = 10 ∨ lmost ns = 1000000 := by
  unfold lmost
  have h1 : 0 ≤ ns.sum % 4 := Int.emod_nonneg _ (by decide)
  have h2 : ns.sum % 4 < 4 := Int.emod_lt_of_pos _ (by decide)
  have : ns.sum % 4 = 0 ∨ ns.sum % 4 = 1 ∨ ns.sum % 4 = 2 ∨ ns.sum % 4 = 3 := by omega
  rcases this with e | e | e | e <;> rw [e]
  · exact .inl rfl
  · exact .inr (.inl rfl)
  · exact .inr (.inl rfl)
  · exact .inr (.inr rfl)
/-- a row that is no refusal -/
def IsRow (ns : List Int) : Prop := ∀ n ∈ ns, -1000000 ≤ n ∧ n ≤ 1000000
theorem lrow_length (ns : List Int) : (lrow ns).length = ns.length := by simp [lrow]
theorem lrow_row (ns : List Int) : IsRow (lrow ns) := by
  intro n hn
  unfold lrow at hn
  obtain ⟨c, _, rfl⟩ := List.mem_map.mp hn
  rcases lmost_cases ns with e | e | e <;> rw [e] <;> omega
theorem IsRow.rev {ns : List Int} (h : IsRow ns) : IsRow ns.reverse := fun n hn => h n (by simpa using hn)
theorem IsRow.neg {ns : List Int} (h : IsRow ns) : IsRow (ns.map (- ·)) := fun n hn => by
  obtain ⟨m, hm, rfl⟩ := List.mem_map.mp hn
  have := h m hm
  omega
theorem nth_mem {ns : List Int} {i : Nat} (h : i < ns.length) : nth ns i ∈ ns := by
  have : nth ns i = ns[i] := by simp [nth, h]
  rw [this]
  exact List.getElem_mem h
end Bs

namespace Bs
open PySem L2
theorem ne_bounds_ins : ¬ (("bounds" : Str) = "ins") := by decide +kernel
theorem bq_bounds_ins : (("bounds" : Str) == "ins") = false := by decide +kernel
theorem ne_bounds_outs : ¬ (("bounds" : Str) = "outs") := by decide +kernel
theorem bq_bounds_outs : (("bounds" : Str) == "outs") = false := by decide +kernel
theorem ne_bounds_price : ¬ (("bounds" : Str) = "price") := by decide +kernel
theorem bq_bounds_price : (("bounds" : Str) == "price") = false := by decide +kernel
theorem ne_bounds_stretches : ¬ (("bounds" : Str) = "stretches") := by decide +kernel
theorem bq_bounds_stretches : (("bounds" : Str) == "stretches") = false := by decide +kernel
theorem ne_first_lows : ¬ (("first" : Str) = "lows") := by decide +kernel
theorem bq_first_lows : (("first" : Str) == "lows") = false := by decide +kernel
theorem ne_first_many : ¬ (("first" : Str) = "many") := by decide +kernel
theorem bq_first_many : (("first" : Str) == "many") = false := by decide +kernel
theorem ne_first_tops : ¬ (("first" : Str) = "tops") := by decide +kernel
theorem bq_first_tops : (("first" : Str) == "tops") = false := by decide +kernel
theorem ne_ins_outs : ¬ (("ins" : Str) = "outs") := by decide +kernel
theorem bq_ins_outs : (("ins" : Str) == "outs") = false := by decide +kernel
theorem ne_ins_price : ¬ (("ins" : Str) = "price") := by decide +kernel
theorem bq_ins_price : (("ins" : Str) == "price") = false := by decide +kernel
theorem ne_ins_stretches : ¬ (("ins" : Str) = "stretches") := by decide +kernel
theorem bq_ins_stretches : (("ins" : Str) == "stretches") = false := by decide +kernel
theorem ne_lows_first : ¬ (("lows" : Str) = "first") := by decide +kernel
theorem bq_lows_first : (("lows" : Str) == "first") = false := by decide +kernel
theorem ne_lows_many : ¬ (("lows" : Str) = "many") := by decide +kernel
theorem bq_lows_many : (("lows" : Str) == "many") = false := by decide +kernel
theorem ne_lows_tops : ¬ (("lows" : Str) = "tops") := by decide +kernel
theorem bq_lows_tops : (("lows" : Str) == "tops") = false := by decide +kernel
theorem ne_many_first : ¬ (("many" : Str) = "first") := by decide +kernel
theorem bq_many_first : (("many" : Str) == "first") = false := by decide +kernel
theorem ne_many_lows : ¬ (("many" : Str) = "lows") := by decide +kernel
theorem bq_many_lows : (("many" : Str) == "lows") = false := by decide +kernel
theorem ne_many_tops : ¬ (("many" : Str) = "tops") := by decide +kernel
theorem bq_many_tops : (("many" : Str) == "tops") = false := by decide +kernel
theorem ne_outs_ins : ¬ (("outs" : Str) = "ins") := by decide +kernel
theorem bq_outs_ins : (("outs" : Str) == "ins") = false := by decide +kernel
theorem ne_outs_price : ¬ (("outs" : Str) = "price") := by decide +kernel
theorem bq_outs_price : (("outs" : Str) == "price") = false := by decide +kernel
theorem ne_outs_stretches : ¬ (("outs" : Str) = "stretches") := by decide +kernel
theorem bq_outs_stretches : (("outs" : Str) == "stretches") = false := by decide +kernel
theorem ne_price_ins : ¬ (("price" : Str) = "ins") := by decide +kernel
theorem bq_price_ins : (("price" : Str) == "ins") = false := by decide +kernel
theorem ne_price_outs : ¬ (("price" : Str) = "outs") := by decide +kernel
theorem bq_price_outs : (("price" : Str) == "outs") = false := by decide +kernel
theorem ne_price_stretches : ¬ (("price" : Str) = "stretches") := by decide +kernel
theorem bq_price_stretches : (("price" : Str) == "stretches") = false := by decide +kernel
theorem ne_shows_first : ¬ (("shows" : Str) = "first") := by decide +kernel
theorem bq_shows_first : (("shows" : Str) == "first") = false := by decide +kernel
theorem ne_shows_ins : ¬ (("shows" : Str) = "ins") := by decide +kernel
theorem bq_shows_ins : (("shows" : Str) == "ins") = false := by decide +kernel
theorem ne_shows_lows : ¬ (("shows" : Str) = "lows") := by decide +kernel
theorem bq_shows_lows : (("shows" : Str) == "lows") = false := by decide +kernel
theorem ne_shows_many : ¬ (("shows" : Str) = "many") := by decide +kernel
theorem bq_shows_many : (("shows" : Str) == "many") = false := by decide +kernel
theorem ne_shows_outs : ¬ (("shows" : Str) = "outs") := by decide +kernel
theorem bq_shows_outs : (("shows" : Str) == "outs") = false := by decide +kernel
theorem ne_shows_price : ¬ (("shows" : Str) = "price") := by decide +kernel
theorem bq_shows_price : (("shows" : Str) == "price") = false := by decide +kernel
theorem ne_shows_stretches : ¬ (("shows" : Str) = "stretches") := by decide +kernel
theorem bq_shows_stretches : (("shows" : Str) == "stretches") = false := by decide +kernel
theorem ne_shows_table : ¬ (("shows" : Str) = "table") := by decide +kernel
theorem bq_shows_table : (("shows" : Str) == "table") = false := by decide +kernel
theorem ne_shows_tops : ¬ (("shows" : Str) = "tops") := by decide +kernel
theorem bq_shows_tops : (("shows" : Str) == "tops") = false := by decide +kernel
theorem ne_stretches_ins : ¬ (("stretches" : Str) = "ins") := by decide +kernel
theorem bq_stretches_ins : (("stretches" : Str) == "ins") = false := by decide +kernel
theorem ne_stretches_outs : ¬ (("stretches" : Str) = "outs") := by decide +kernel
theorem bq_stretches_outs : (("stretches" : Str) == "outs") = false := by decide +kernel
theorem ne_stretches_price : ¬ (("stretches" : Str) = "price") := by decide +kernel
theorem bq_stretches_price : (("stretches" : Str) == "price") = false := by decide +kernel
theorem ne_tops_first : ¬ (("tops" : Str) = "first") := by decide +kernel
theorem bq_tops_first : (("tops" : Str) == "first") = false := by decide +kernel
theorem ne_tops_lows : ¬ (("tops" : Str) = "lows") := by decide +kernel
theorem bq_tops_lows : (("tops" : Str) == "lows") = false := by decide +kernel
theorem ne_tops_many : ¬ (("tops" : Str) = "many") := by decide +kernel
theorem bq_tops_many : (("tops" : Str) == "many") = false := by decide +kernel
def fBest (x0 : Int) (x1 : Int) (x2 : Addr) : List (Str × V) := [("first", V.int x0), ("many", V.int x1), ("lows", V.ref x2)]
theorem fBest_len {x0 : Int} {x1 : Int} {x2 : Addr} : (fBest x0 x1 x2).length < 1000 := by show 3 < 1000; decide
theorem lk_Best_first {x0 : Int} {x1 : Int} {x2 : Addr} : (fBest x0 x1 x2).lookup ("first" : Str) = some (.int x0) := by simp only [fBest, List.lookup_cons, beq_self_eq_true]
theorem pt_Best_first {x0 : Int} : putF "first" (.int x0) ([] : List (Str × V)) = ([("first", V.int x0)] : List (Str × V)) := by simp only [putF]
theorem lk_Best_many {x0 : Int} {x1 : Int} {x2 : Addr} : (fBest x0 x1 x2).lookup ("many" : Str) = some (.int x1) := by simp only [fBest, List.lookup_cons, bq_many_first, beq_self_eq_true]
theorem pt_Best_many {x0 : Int} {x1 : Int} : putF "many" (.int x1) ([("first", V.int x0)] : List (Str × V)) = ([("first", V.int x0), ("many", V.int x1)] : List (Str × V)) := by simp only [putF, if_neg ne_first_many]
theorem lk_Best_lows {x0 : Int} {x1 : Int} {x2 : Addr} : (fBest x0 x1 x2).lookup ("lows" : Str) = some (.ref x2) := by simp only [fBest, List.lookup_cons, bq_lows_first, bq_lows_many, beq_self_eq_true]
theorem pt_Best_lows {x0 : Int} {x1 : Int} {x2 : Addr} : putF "lows" (.ref x2) ([("first", V.int x0), ("many", V.int x1)] : List (Str × V)) = ([("first", V.int x0), ("many", V.int x1), ("lows", V.ref x2)] : List (Str × V)) := by simp only [putF, if_neg ne_first_lows, if_neg ne_many_lows]
theorem no_Best_shows {x0 : Int} {x1 : Int} {x2 : Addr} : (fBest x0 x1 x2).lookup ("shows" : Str) = none := by simp only [fBest, List.lookup_cons, List.lookup_nil, bq_shows_first, bq_shows_many, bq_shows_lows]
structure OkBest (K : PySem.W.Frag) (C : Addr) : Prop where
  cl : Cls K C
  first : NoAttr K C "first"
  many : NoAttr K C "many"
  lows : NoAttr K C "lows"
def fSteep (x0 : Int) (x1 : Int) (x2 : Addr) : List (Str × V) := [("first", V.int x0), ("many", V.int x1), ("lows", V.ref x2)]
theorem fSteep_len {x0 : Int} {x1 : Int} {x2 : Addr} : (fSteep x0 x1 x2).length < 1000 := by show 3 < 1000; decide
theorem lk_Steep_first {x0 : Int} {x1 : Int} {x2 : Addr} : (fSteep x0 x1 x2).lookup ("first" : Str) = some (.int x0) := by simp only [fSteep, List.lookup_cons, beq_self_eq_true]
theorem pt_Steep_first {x0 : Int} : putF "first" (.int x0) ([] : List (Str × V)) = ([("first", V.int x0)] : List (Str × V)) := by simp only [putF]
theorem lk_Steep_many {x0 : Int} {x1 : Int} {x2 : Addr} : (fSteep x0 x1 x2).lookup ("many" : Str) = some (.int x1) := by simp only [fSteep, List.lookup_cons, bq_many_first, beq_self_eq_true]
theorem pt_Steep_many {x0 : Int} {x1 : Int} : putF "many" (.int x1) ([("first", V.int x0)] : List (Str × V)) = ([("first", V.int x0), ("many", V.int x1)] : List (Str × V)) := by simp only [putF, if_neg ne_first_many]
theorem lk_Steep_lows {x0 : Int} {x1 : Int} {x2 : Addr} : (fSteep x0 x1 x2).lookup ("lows" : Str) = some (.ref x2) := by simp only [fSteep, List.lookup_cons, bq_lows_first, bq_lows_many, beq_self_eq_true]
theorem pt_Steep_lows {x0 : Int} {x1 : Int} {x2 : Addr} : putF "lows" (.ref x2) ([("first", V.int x0), ("many", V.int x1)] : List (Str × V)) = ([("first", V.int x0), ("many", V.int x1), ("lows", V.ref x2)] : List (Str × V)) := by simp only [putF, if_neg ne_first_lows, if_neg ne_many_lows]
theorem no_Steep_shows {x0 : Int} {x1 : Int} {x2 : Addr} : (fSteep x0 x1 x2).lookup ("shows" : Str) = none := by simp only [fSteep, List.lookup_cons, List.lookup_nil, bq_shows_first, bq_shows_many, bq_shows_lows]
structure OkSteep (K : PySem.W.Frag) (C : Addr) : Prop where
  cl : Cls K C
  first : NoAttr K C "first"
  many : NoAttr K C "many"
  lows : NoAttr K C "lows"
def fAround (x0 : Int) (x1 : Int) (x2 : Addr) (x3 : Addr) : List (Str × V) := [("first", V.int x0), ("many", V.int x1), ("lows", V.ref x2), ("tops", V.ref x3)]
theorem fAround_len {x0 : Int} {x1 : Int} {x2 : Addr} {x3 : Addr} : (fAround x0 x1 x2 x3).length < 1000 := by show 4 < 1000; decide
theorem lk_Around_first {x0 : Int} {x1 : Int} {x2 : Addr} {x3 : Addr} : (fAround x0 x1 x2 x3).lookup ("first" : Str) = some (.int x0) := by simp only [fAround, List.lookup_cons, beq_self_eq_true]
theorem pt_Around_first {x0 : Int} : putF "first" (.int x0) ([] : List (Str × V)) = ([("first", V.int x0)] : List (Str × V)) := by simp only [putF]
theorem lk_Around_many {x0 : Int} {x1 : Int} {x2 : Addr} {x3 : Addr} : (fAround x0 x1 x2 x3).lookup ("many" : Str) = some (.int x1) := by simp only [fAround, List.lookup_cons, bq_many_first, beq_self_eq_true]
theorem pt_Around_many {x0 : Int} {x1 : Int} : putF "many" (.int x1) ([("first", V.int x0)] : List (Str × V)) = ([("first", V.int x0), ("many", V.int x1)] : List (Str × V)) := by simp only [putF, if_neg ne_first_many]
theorem lk_Around_lows {x0 : Int} {x1 : Int} {x2 : Addr} {x3 : Addr} : (fAround x0 x1 x2 x3).lookup ("lows" : Str) = some (.ref x2) := by simp only [fAround, List.lookup_cons, bq_lows_first, bq_lows_many, beq_self_eq_true]
theorem pt_Around_lows {x0 : Int} {x1 : Int} {x2 : Addr} : putF "lows" (.ref x2) ([("first", V.int x0), ("many", V.int x1)] : List (Str × V)) = ([("first", V.int x0), ("many", V.int x1), ("lows", V.ref x2)] : List (Str × V)) := by simp only [putF, if_neg ne_first_lows, if_neg ne_many_lows]
theorem lk_Around_tops {x0 : Int} {x1 : Int} {x2 : Addr} {x3 : Addr} : (fAround x0 x1 x2 x3).lookup ("tops" : Str) = some (.ref x3) := by simp only [fAround, List.lookup_cons, bq_tops_first, bq_tops_many, bq_tops_lows, beq_self_eq_true]
theorem pt_Around_tops {x0 : Int} {x1 : Int} {x2 : Addr} {x3 : Addr} : putF "tops" (.ref x3) ([("first", V.int x0), ("many", V.int x1), ("lows", V.ref x2)] : List (Str × V)) = ([("first", V.int x0), ("many", V.int x1), ("lows", V.ref x2), ("tops", V.ref x3)] : List (Str × V)) := by simp only [putF, if_neg ne_first_tops, if_neg ne_many_tops, if_neg ne_lows_tops]
theorem no_Around_shows {x0 : Int} {x1 : Int} {x2 : Addr} {x3 : Addr} : (fAround x0 x1 x2 x3).lookup ("shows" : Str) = none := by simp only [fAround, List.lookup_cons, List.lookup_nil, bq_shows_first, bq_shows_many, bq_shows_lows, bq_shows_tops]
structure OkAround (K : PySem.W.Frag) (C : Addr) : Prop where
  cl : Cls K C
  first : NoAttr K C "first"
  many : NoAttr K C "many"
  lows : NoAttr K C "lows"
  tops : NoAttr K C "tops"
def fExact (x0 : Int) (x1 : Int) : List (Str × V) := [("first", V.int x0), ("many", V.int x1)]
theorem fExact_len {x0 : Int} {x1 : Int} : (fExact x0 x1).length < 1000 := by show 2 < 1000; decide
theorem lk_Exact_first {x0 : Int} {x1 : Int} : (fExact x0 x1).lookup ("first" : Str) = some (.int x0) := by simp only [fExact, List.lookup_cons, beq_self_eq_true]
theorem pt_Exact_first {x0 : Int} : putF "first" (.int x0) ([] : List (Str × V)) = ([("first", V.int x0)] : List (Str × V)) := by simp only [putF]
theorem lk_Exact_many {x0 : Int} {x1 : Int} : (fExact x0 x1).lookup ("many" : Str) = some (.int x1) := by simp only [fExact, List.lookup_cons, bq_many_first, beq_self_eq_true]
theorem pt_Exact_many {x0 : Int} {x1 : Int} : putF "many" (.int x1) ([("first", V.int x0)] : List (Str × V)) = ([("first", V.int x0), ("many", V.int x1)] : List (Str × V)) := by simp only [putF, if_neg ne_first_many]
theorem no_Exact_shows {x0 : Int} {x1 : Int} : (fExact x0 x1).lookup ("shows" : Str) = none := by simp only [fExact, List.lookup_cons, List.lookup_nil, bq_shows_first, bq_shows_many]
structure OkExact (K : PySem.W.Frag) (C : Addr) : Prop where
  cl : Cls K C
  first : NoAttr K C "first"
  many : NoAttr K C "many"
def fNever (x0 : Addr) : List (Str × V) := [("table", V.ref x0)]
theorem fNever_len {x0 : Addr} : (fNever x0).length < 1000 := by show 1 < 1000; decide
theorem lk_Never_table {x0 : Addr} : (fNever x0).lookup ("table" : Str) = some (.ref x0) := by simp only [fNever, List.lookup_cons, beq_self_eq_true]
theorem pt_Never_table {x0 : Addr} : putF "table" (.ref x0) ([] : List (Str × V)) = ([("table", V.ref x0)] : List (Str × V)) := by simp only [putF]
theorem no_Never_shows {x0 : Addr} : (fNever x0).lookup ("shows" : Str) = none := by simp only [fNever, List.lookup_cons, List.lookup_nil, bq_shows_table]
structure OkNever (K : PySem.W.Frag) (C : Addr) : Prop where
  cl : Cls K C
  table : NoAttr K C "table"
def fSeveral (x0 : Addr) (x1 : Int) (x2 : Addr) (x3 : Addr) : List (Str × V) := [("stretches", V.ref x0), ("price", V.int x1), ("outs", V.ref x2), ("ins", V.ref x3)]
theorem fSeveral_len {x0 : Addr} {x1 : Int} {x2 : Addr} {x3 : Addr} : (fSeveral x0 x1 x2 x3).length < 1000 := by show 4 < 1000; decide
theorem lk_Several_stretches {x0 : Addr} {x1 : Int} {x2 : Addr} {x3 : Addr} : (fSeveral x0 x1 x2 x3).lookup ("stretches" : Str) = some (.ref x0) := by simp only [fSeveral, List.lookup_cons, beq_self_eq_true]
theorem pt_Several_stretches {x0 : Addr} : putF "stretches" (.ref x0) ([] : List (Str × V)) = ([("stretches", V.ref x0)] : List (Str × V)) := by simp only [putF]
theorem lk_Several_price {x0 : Addr} {x1 : Int} {x2 : Addr} {x3 : Addr} : (fSeveral x0 x1 x2 x3).lookup ("price" : Str) = some (.int x1) := by simp only [fSeveral, List.lookup_cons, bq_price_stretches, beq_self_eq_true]
theorem pt_Several_price {x0 : Addr} {x1 : Int} : putF "price" (.int x1) ([("stretches", V.ref x0)] : List (Str × V)) = ([("stretches", V.ref x0), ("price", V.int x1)] : List (Str × V)) := by simp only [putF, if_neg ne_stretches_price]
theorem lk_Several_outs {x0 : Addr} {x1 : Int} {x2 : Addr} {x3 : Addr} : (fSeveral x0 x1 x2 x3).lookup ("outs" : Str) = some (.ref x2) := by simp only [fSeveral, List.lookup_cons, bq_outs_stretches, bq_outs_price, beq_self_eq_true]
theorem pt_Several_outs {x0 : Addr} {x1 : Int} {x2 : Addr} : putF "outs" (.ref x2) ([("stretches", V.ref x0), ("price", V.int x1)] : List (Str × V)) = ([("stretches", V.ref x0), ("price", V.int x1), ("outs", V.ref x2)] : List (Str × V)) := by simp only [putF, if_neg ne_stretches_outs, if_neg ne_price_outs]
theorem lk_Several_ins {x0 : Addr} {x1 : Int} {x2 : Addr} {x3 : Addr} : (fSeveral x0 x1 x2 x3).lookup ("ins" : Str) = some (.ref x3) := by simp only [fSeveral, List.lookup_cons, bq_ins_stretches, bq_ins_price, bq_ins_outs, beq_self_eq_true]
theorem pt_Several_ins {x0 : Addr} {x1 : Int} {x2 : Addr} {x3 : Addr} : putF "ins" (.ref x3) ([("stretches", V.ref x0), ("price", V.int x1), ("outs", V.ref x2)] : List (Str × V)) = ([("stretches", V.ref x0), ("price", V.int x1), ("outs", V.ref x2), ("ins", V.ref x3)] : List (Str × V)) := by simp only [putF, if_neg ne_stretches_ins, if_neg ne_price_ins, if_neg ne_outs_ins]
theorem no_Several_shows {x0 : Addr} {x1 : Int} {x2 : Addr} {x3 : Addr} : (fSeveral x0 x1 x2 x3).lookup ("shows" : Str) = none := by simp only [fSeveral, List.lookup_cons, List.lookup_nil, bq_shows_stretches, bq_shows_price, bq_shows_outs, bq_shows_ins]
theorem no_Several_bounds {x0 : Addr} {x1 : Int} {x2 : Addr} {x3 : Addr} : (fSeveral x0 x1 x2 x3).lookup ("bounds" : Str) = none := by simp only [fSeveral, List.lookup_cons, List.lookup_nil, bq_bounds_stretches, bq_bounds_price, bq_bounds_outs, bq_bounds_ins]
structure OkSeveral (K : PySem.W.Frag) (C : Addr) : Prop where
  cl : Cls K C
  stretches : NoAttr K C "stretches"
  price : NoAttr K C "price"
  outs : NoAttr K C "outs"
  ins : NoAttr K C "ins"
theorem kitOne_of {K : PySem.W.Frag} {C D : Addr} {b : Bool} (h1 : PySem.W.isClsIn K D = true) (h2 : PySem.W.typeIn K (.ref D) = some (.type "type")) (h3 : PySem.W.subIn K (.ref C) (.ref D) = some b) (h4 : PySem.W.subIn K (.ref C) (.ref C) = some true) :
    PySem.W.kitOne K (.ref C) (.ref D) = some b := by
  have e2 : ((PySem.W.clsIn K D).isSome && PySem.W.typeIn K (.ref D) == some (.type "type")) = true := by
    have h1' : (PySem.W.clsIn K D).isSome = true := h1
    rw [h1', h2] <;> rfl
  unfold PySem.W.kitOne
  by_cases e : (Value.ref C == Value.ref D) = true
  · rw [if_pos e]
    have : C = D := by
      have := eq_of_beq e
      injection this
    subst this
    rw [h4] at h3
    exact h3
  · rw [if_neg e]
    show (if ((PySem.W.clsIn K D).isSome && PySem.W.typeIn K (.ref D) == some (.type "type")) = true then PySem.W.subIn K (.ref C) (.ref D) else none) = some b
    rw [if_pos e2]
    exact h3
/-- what isinstance asks of an own class -/
structure IsiC (K : PySem.W.Frag) (C : Addr) : Prop where
  cl : Cls K C
  ha : PySem.W.findIn K (.ref C) "__class__" = some (some (.builtin "object.__class__"))
  hn : PySem.W.specialIn K (.builtin "object.__class__") "__get__" = some (some (.builtin "getset_descriptor.__get__"))
  tk : PySem.W.takesIn K (.builtin "object.__class__") = some true
  hm : PySem.W.mroIn K C (.type "object") = some true
section
variable {K : PySem.W.Frag} {σ σ' : L2.St} {H H' : Hp} {Q : VK} {ta tv : TE} {D : Ends} {v x y : V} {a C C' dx : Addr} {fs fs' : List (Str × V)} {f m : Str} {b : Bool} {vs : List V}
theorem isi_own (I : IsiC K C) (h : H a = some (.ins C dx fs)) (k : PySem.W.kitOne K (.ref C) (.ref C') = some b) (q : Q (.bl b) H) : rIsi K [.ref a, .ref C'] H Q :=
  ⟨_, _, _, _, b, rfl, .own C', .base (.ins h I.cl I.ha I.hn I.tk I.hm), k, q⟩
theorem isi_own' (h : H a = some (.ins C dx fs)) (I : IsiC K C) (k : PySem.W.kitOne K (.ref C) (.ref C') = some b) (q : Q (.bl b) H) : rIsi K [.ref a, .ref C'] H Q := isi_own I h k q
theorem wp_fld (q : ta σ H (kFld K f Q)) : tFld K ta f σ H Q := q
theorem wp_kFld (h : H a = some (.ins C dx fs)) (c : Cls K C) (n : NoAttr K C f) (l : fs.lookup f = some v) (q : Q v H) : kFld K f Q (.ref a) H := ⟨a, C, dx, fs, v, rfl, h, c, n, l, q⟩
def kPutF (K : PySem.W.Frag) (f : Str) (y : V) (D : Ends) (σ : L2.St) : VK := fun x H2 => ∃ a C dx fs, x = .ref a ∧ H2 a = some (.ins C dx fs) ∧ Cls K C ∧ NoAttr K C f ∧ fs.length < 1000 ∧ D.nx σ (upd H2 a (.ins C dx (putF f y fs)))
theorem wp_sfld (q : tv σ H fun y H1 => ta σ H1 fun x H2 => kPutF K f y D σ x H2) : sFld K ta tv f D σ H := q
theorem wp_kPutF (h : H a = some (.ins C dx fs)) (c : Cls K C) (n : NoAttr K C f) (l : fs.length < 1000) (e : putF f y fs = fs') (q : D.nx σ (upd H a (.ins C dx fs'))) : kPutF K f y D σ (.ref a) H :=
  ⟨a, C, dx, fs, rfl, h, c, n, l, by rw [e]; exact q⟩
def kCallM (x : V) (sp : Sp) (dvs : List V) (E : XK) (Q : VK) : List V → Hp → Prop := fun vs H => sp (x :: (vs ++ dvs)) H Q E
theorem wp_meth {sp : Sp} {dvs : List V} {E : XK} {t : TA} (q : ta σ H (kMeth C m sp dvs E t σ Q)) : tMeth C m sp dvs E ta t σ H Q := q
theorem wp_kMeth {sp : Sp} {dvs : List V} {E : XK} {t : TA} (h : H a = some (.ins C dx fs)) (n : fs.lookup m = none) (q : t σ H (kCallM (.ref a) sp dvs E Q)) : kMeth C m sp dvs E t σ Q (.ref a) H := ⟨a, dx, fs, rfl, h, n, q⟩
theorem wp_kCallM {sp : Sp} {E : XK} (q : sp (x :: vs) H Q E) : kCallM x sp [] E Q vs H := by
  show sp (x :: (vs ++ [])) H Q E
  rw [List.append_nil]
  exact q
theorem wp_make {sp : Sp} {dvs : List V} {E : XK} {t : TA} (q : t σ H (kMake C sp dvs E Q)) : tMake C sp dvs E t σ H Q := q
theorem wp_kMake {sp : Sp} {E : XK} (q : ∀ x dx, H x = none → H dx = none → dx ≠ x → sp (.ref x :: vs) (upd (upd H dx (.own x)) x (.ins C dx [])) (fun v H2 => v = .non ∧ Q (.ref x) H2) E) : kMake C sp [] E Q vs H := by
  intro x dx h1 h2 h3
  rw [List.append_nil]
  exact q x dx h1 h2 h3
/-- behind a making -/
theorem same_make {H0 : Hp} {p : Addr} (np : H p = none) (nd : H dx = none) (k : ∀ b o, (upd (upd H dx (.own p)) p (.ins C dx [])) b = some o → b ≠ p → H0 b = some o) : Same H H0 := fun b o e =>
  k b o (by rw [upd_ne (ne_of_none e np), upd_ne (ne_of_none e nd)]; exact e) (ne_of_none e np)
end
end Bs

namespace Bs
open PySem L2
/-! ### stretches and lows: the mathematics -/
def IsThere (f m l : Int) : Prop := 0 ≤ f ∧ 1 ≤ m ∧ f + m ≤ l
instance (f m l : Int) : Decidable (IsThere f m l) := by unfold IsThere; infer_instance
/-- lows against sums -/
def Below (sums : List Int) (least : Int) (lows : List Int) (told : Int) : Prop :=
  (lows.length : Int) = sums.length - least ∧ ∀ i : Nat, i < lows.length → nth lows i ≤ nth sums i ∧ (0 < i → nth lows i ≤ nth lows ((i : Int) - 1)) ∧ nth sums ((i : Int) + least) - nth lows i ≤ told
instance (sums : List Int) (least : Int) (lows : List Int) (told : Int) : Decidable (Below sums least lows told) := by unfold Below; infer_instance
/-- the sum of a stretch, as the slice has it -/
def segS (ns : List Int) (f m : Int) : Int := (cut ns (some f) (some (f + m))).sum
theorem cut_some (ns : List Int) {f e : Int} (h0 : 0 ≤ f) (h1 : f ≤ e) (h2 : e ≤ ns.length) : cut ns (some f) (some e) = (ns.drop f.toNat).take (e - f).toNat := by
  unfold cut
  have e1 : HT.sIx ns.length 0 (some f) = f.toNat := by
    show (if f < 0 then (f + (ns.length : Int)).toNat else min f.toNat ns.length) = f.toNat
    rw [if_neg (by omega)]
    omega
  have e2 : HT.sIx ns.length ns.length (some e) = e.toNat := by
    show (if e < 0 then (e + (ns.length : Int)).toNat else min e.toNat ns.length) = e.toNat
    rw [if_neg (by omega)]
    omega
  rw [e1, e2, show e.toNat - f.toNat = (e - f).toNat by omega]
theorem pre_split (ns : List Int) (f m : Nat) : pre ns (f + m) = pre ns f + ((ns.drop f).take m).sum := by
  unfold pre
  rw [List.take_add, List.sum_append]
theorem segS_pre (ns : List Int) {f m : Int} (h0 : 0 ≤ f) (h1 : 0 ≤ m) (h2 : f + m ≤ ns.length) : segS ns f m = nth (psums ns) (f + m) - nth (psums ns) f := by
  unfold segS
  rw [cut_some ns h0 (by omega) h2]
  have e := pre_split ns f.toNat m.toNat
  have ef : nth (psums ns) f = pre ns f.toNat := by
    have := nth_psums ns (j := f.toNat) (by omega)
    rw [← this, Int.toNat_of_nonneg h0]
  have eg : nth (psums ns) (f + m) = pre ns (f.toNat + m.toNat) := by
    have := nth_psums ns (j := f.toNat + m.toNat) (by omega)
    rw [← this]
    congr 1
    omega
  rw [ef, eg, e, show (f + m - f).toNat = m.toNat by omega]
  omega
theorem sum_pre (ns : List Int) : ns.sum = pre ns ns.length := by simp [pre]
/-- what best_of tells -/
structure BestOf (ns : List Int) (least f m : Int) (lows : List Int) : Prop where
  f0 : 0 ≤ f
  m0 : least ≤ m
  fm : f + m ≤ ns.length
  lo : Below (psums ns) least lows (segS ns f m)
/-- lows bound every stretch -/
theorem Below.bound {P lows : List Int} {least told : Int} (h : Below P least lows told) (hl : 0 ≤ least) {a e : Int} (h0 : 0 ≤ a) (h1 : a + least ≤ e) (h2 : e < P.length) : nth P e - nth P a ≤ told := by
  obtain ⟨hn, h⟩ := h
  have key : ∀ (d : Nat) (j : Nat), (j : Int) + least < P.length → (j : Int) = a + d → nth lows j ≤ nth P a := by
    intro d
    induction d with
    | zero =>
      intro j hj e
      have e' : (j : Int) = a := by omega
      have := (h j (by omega)).1
      rw [e'] at this
      rw [e']
      exact this
    | succ d ih =>
      intro j hj e
      have h1 := (h j (by omega)).2.1 (by omega)
      have e2 : ((j - 1 : Nat) : Int) = (j : Int) - 1 := by omega
      have h2 := ih (j - 1) (by omega) (by omega)
      rw [e2] at h2
      omega
  have hj : (((e - least).toNat : Nat) : Int) = e - least := by omega
  have q := key (e - least - a).toNat (e - least).toNat (by omega) (by omega)
  have r := (h (e - least).toNat (by omega)).2.2
  rw [hj] at q r
  rw [show e - least + least = e by omega] at r
  omega
theorem nth_append_left {xs ys : List Int} {i : Int} (h0 : 0 ≤ i) (h : i < xs.length) : nth (xs ++ ys) i = nth xs i := by
  unfold nth
  rw [List.getD_eq_getElem?_getD, List.getD_eq_getElem?_getD, List.getElem?_append_left (by omega)]
theorem nth_append_last {xs : List Int} {y : Int} : nth (xs ++ [y]) (xs.length : Int) = y := by
  simp [nth]
/-- one turn of best_of: i turns are done -/
structure BestTo (P : List Int) (least : Int) (i : Nat) (lows : List Int) (low f m : Int) : Prop where
  ln : lows.length = i
  l0 : 0 ≤ low
  li : low ≤ i ∧ (low < i ∨ (i = 0 ∧ low = 0))
  mn : ∀ k : Nat, k < i → nth P low ≤ nth P k
  la : 0 < i → nth lows ((i : Int) - 1) = nth P low
  f0 : 0 ≤ f
  m0 : least ≤ m
  fm : f + m < P.length
  lo : ∀ j : Nat, j < i → nth lows j ≤ nth P j ∧ (0 < j → nth lows j ≤ nth lows ((j : Int) - 1)) ∧ nth P ((j : Int) + least) - nth lows j ≤ nth P (f + m) - nth P f
theorem bestTo_zero {P : List Int} {least : Int} (h1 : 0 ≤ least) (h2 : least < P.length) : BestTo P least 0 [] 0 0 least :=
  ⟨rfl, Int.le_refl _, by omega, fun k hk => by omega, fun h => by omega, Int.le_refl _, Int.le_refl _, by omega, fun j hj => by omega⟩
theorem bestTo_step {P : List Int} {least : Int} {i : Nat} {lows : List Int} {low f m low' f' m' : Int} (h : BestTo P least i lows low f m) (hl : 0 ≤ least) (hi : (i : Int) + least < P.length)
    (e1 : low' = if nth P i < nth P low then (i : Int) else low)
    (e2 : f' = if nth P ((i : Int) + least) - nth P low' > nth P (f + m) - nth P f then low' else f)
    (e3 : m' = if nth P ((i : Int) + least) - nth P low' > nth P (f + m) - nth P f then (i : Int) + least - low' else m) :
    BestTo P least (i + 1) (lows ++ [nth P low']) low' f' m' := by
  obtain ⟨ln, l0, li, mn, la, f0, m0, fm, lo⟩ := h
  have hlow : 0 ≤ low' ∧ low' ≤ i ∧ nth P low' ≤ nth P i ∧ nth P low' ≤ nth P low := by
    rw [e1]
    split
    · exact ⟨by omega, by omega, Int.le_refl _, by omega⟩
    · rename_i hh
      refine ⟨l0, li.1, by omega, Int.le_refl _⟩
  obtain ⟨a1, a2, a3, a4⟩ := hlow
  have hbest : nth P (f + m) - nth P f ≤ nth P (f' + m') - nth P f' ∧ nth P ((i : Int) + least) - nth P low' ≤ nth P (f' + m') - nth P f' ∧ 0 ≤ f' ∧ least ≤ m' ∧ f' + m' < P.length := by
    rw [e2, e3]
    by_cases c : nth P ((i : Int) + least) - nth P low' > nth P (f + m) - nth P f
    · rw [if_pos c, if_pos c, show low' + ((i : Int) + least - low') = (i : Int) + least by omega]
      refine ⟨by omega, by omega, a1, by omega, hi⟩
    · rw [if_neg c, if_neg c]
      exact ⟨Int.le_refl _, by omega, f0, m0, fm⟩
  obtain ⟨b1, b2, b3, b4, b5⟩ := hbest
  have hlast : nth (lows ++ [nth P low']) (i : Int) = nth P low' := by
    rw [← ln]
    exact nth_append_last
  refine ⟨by simp [ln], a1, ⟨by omega, .inl (by omega)⟩, fun k hk => ?_, fun _ => ?_, b3, b4, b5, fun j hj => ?_⟩
  · by_cases e : k = i
    · subst e; exact a3
    · have := mn k (by omega)
      omega
  · rw [show ((i + 1 : Nat) : Int) - 1 = (i : Int) by omega]
    exact hlast
  · by_cases e : j = i
    · subst e
      rw [hlast]
      refine ⟨a3, fun h0 => ?_, b2⟩
      rw [nth_append_left (by omega) (by omega), la h0]
      exact a4
    · have hj' : j < i := by omega
      obtain ⟨c1, c2, c3⟩ := lo j hj'
      rw [nth_append_left (by omega) (by omega)]
      refine ⟨c1, fun h0 => ?_, by omega⟩
      rw [nth_append_left (by omega) (by omega)]
      exact c2 h0
theorem bestTo_end {ns lows : List Int} {least low f m : Int} {i : Nat} (h : BestTo (psums ns) least i lows low f m) (hl : 0 ≤ least) (hi : (i : Int) = ns.length - least + 1) : BestOf ns least f m lows := by
  obtain ⟨ln, l0, li, mn, la, f0, m0, fm, lo⟩ := h
  have hz := psums_length ns
  refine ⟨f0, m0, by omega, by omega, fun j hj => ?_⟩
  rw [segS_pre ns f0 (by omega) (by omega)]
  exact lo j (by omega)
/-- what an answer with lows shows -/
def BestShow (ns : List Int) (least f m : Int) (lows : List Int) : Prop := IsThere f m ns.length ∧ least ≤ m ∧ Below (psums ns) least lows (segS ns f m)
instance (ns : List Int) (least f m : Int) (lows : List Int) : Decidable (BestShow ns least f m lows) := by unfold BestShow; infer_instance
theorem BestOf.shows {ns lows : List Int} {least f m : Int} (h : BestOf ns least f m lows) (hl : 1 ≤ least) : BestShow ns least f m lows := ⟨⟨h.f0, by have := h.m0; omega, h.fm⟩, h.m0, h.lo⟩
theorem not_below_snoc {P lows : List Int} {least told : Int} {y : Int} (h : Below P least lows told) (t2 : Int) : ¬ Below P least (lows ++ [y]) t2 := by
  intro q
  have h1 := h.1
  have h2 := q.1
  rw [List.length_append, List.length_singleton] at h2
  omega
end Bs

namespace Bs
open PySem L2
/-! ### several stretches: the mathematics -/
/-- the best sum whose last stretch ends with the i-th number, begun behind a best sum -/
def runF (ns : List Int) (b : Nat → Int) : Nat → Int
  | 0 => b 0
  | i + 1 => max (runF ns b i) (b i) + nth ns i
def bestF (ns : List Int) (b : Nat → Int) : Nat → Int
  | 0 => b 0
  | i + 1 => max (bestF ns b i) (runF ns b (i + 1))
/-- the best sum of at most k stretches of the first i numbers -/
def sevF (ns : List Int) : Nat → Nat → Int
  | 0 => fun _ => 0
  | k + 1 => bestF ns (sevF ns k)
def sevG (ns : List Int) (k i : Nat) : Int := runF ns (sevF ns k) i
theorem sevF_zero (ns : List Int) (i : Nat) : sevF ns 0 i = 0 := rfl
theorem sevF_at0 (ns : List Int) : ∀ k, sevF ns k 0 = 0
  | 0 => rfl
  | k + 1 => sevF_at0 ns k
theorem sevG_at0 (ns : List Int) (k : Nat) : sevG ns k 0 = 0 := sevF_at0 ns k
theorem sevG_succ (ns : List Int) (k i : Nat) : sevG ns k (i + 1) = max (sevG ns k i) (sevF ns k i) + nth ns i := rfl
theorem sevF_succ (ns : List Int) (k i : Nat) : sevF ns (k + 1) (i + 1) = max (sevF ns (k + 1) i) (sevG ns k (i + 1)) := rfl
theorem sevF_mono_i (ns : List Int) : ∀ k i, sevF ns k i ≤ sevF ns k (i + 1)
  | 0, _ => Int.le_refl _
  | k + 1, i => by rw [sevF_succ]; omega
theorem sevF_nonneg (ns : List Int) (k : Nat) : ∀ i, 0 ≤ sevF ns k i
  | 0 => by rw [sevF_at0]; omega
  | i + 1 => Int.le_trans (sevF_nonneg ns k i) (sevF_mono_i ns k i)
/-- one stretch more is never worse -/
theorem sev_mono_k (ns : List Int) : ∀ i k, sevF ns k i ≤ sevF ns (k + 1) i ∧ sevG ns k i ≤ sevG ns (k + 1) i
  | 0, k => by rw [sevF_at0, sevF_at0, sevG_at0, sevG_at0]; omega
  | i + 1, k => by
    have h1 := sev_mono_k ns i k
    have g : sevG ns k (i + 1) ≤ sevG ns (k + 1) (i + 1) := by
      rw [sevG_succ, sevG_succ]
      omega
    refine ⟨?_, g⟩
    cases k with
    | zero => rw [sevF_zero]; exact sevF_nonneg ns _ _
    | succ k =>
      have h2 := sev_mono_k ns i k
      have g2 : sevG ns k (i + 1) ≤ sevG ns (k + 1) (i + 1) := by
        rw [sevG_succ, sevG_succ]
        omega
      rw [sevF_succ ns (k + 1), sevF_succ ns k]
      omega
/-- no more stretches than places -/
theorem sev_flat (ns : List Int) : ∀ i k, i ≤ k → sevF ns (k + 1) i = sevF ns k i ∧ sevG ns (k + 1) i = sevG ns k i
  | 0, k, _ => by rw [sevF_at0, sevF_at0, sevG_at0, sevG_at0]; exact ⟨rfl, rfl⟩
  | i + 1, 0, h => by omega
  | i + 1, k + 1, h => by
    have h1 := sev_flat ns i (k + 1) (by omega)
    have h2 := sev_flat ns i k (by omega)
    have g1 : sevG ns (k + 2) (i + 1) = sevG ns (k + 1) (i + 1) := by rw [sevG_succ, sevG_succ, h1.1, h1.2]
    have g2 : sevG ns (k + 1) (i + 1) = sevG ns k (i + 1) := by rw [sevG_succ, sevG_succ, h2.1, h2.2]
    refine ⟨?_, g1⟩
    rw [sevF_succ ns (k + 1), sevF_succ ns k, h1.1, g2]
theorem stepB {f0 f1 f2 g0 g1 g2 x : Int} (A : f0 + f2 ≤ 2 * f1) (B : g0 + g2 ≤ 2 * g1) (C : f0 + g1 ≤ f1 + g0) (D : g0 + f2 ≤ g1 + f1) : max g0 f0 + x + (max g2 f2 + x) ≤ 2 * (max g1 f1 + x) := by
  rcases Int.le_total g0 f0 with p | p <;> rcases Int.le_total g2 f2 with q | q <;> simp only [Int.max_eq_right p, Int.max_eq_left p, Int.max_eq_right q, Int.max_eq_left q] <;>
    rcases Int.le_total g1 f1 with r | r <;> simp only [Int.max_eq_right r, Int.max_eq_left r] <;> omega
theorem stepA {fj fk fk1 fk2 gj gk gk1 x u v w hj hk hk1 : Int} (A0 : fj + fk1 ≤ 2 * fk) (A1 : fk + fk2 ≤ 2 * fk1) (C1 : fk + gk1 ≤ fk1 + gk) (D0 : gj + fk1 ≤ gk + fk)
    (wj : hj = gj + x ∨ hj = fj + x) (wk : gk + x ≤ hk ∧ fk + x ≤ hk) (w1 : hk1 = gk1 + x ∨ hk1 = fk1 + x) (hB : hj + hk1 ≤ 2 * hk)
    (hu : u = fk ∨ u = hj) (hv : fk1 ≤ v ∧ hk ≤ v) (hw : w = fk2 ∨ w = hk1) : u + w ≤ 2 * v := by
  rcases hu with hu | hu <;> rcases hw with hw | hw <;> rcases wj with wj | wj <;> rcases w1 with w1 | w1 <;> omega
theorem stepC {fk fk1 gk gk1 x u v hj hk hk1 : Int} (C1 : fk + gk1 ≤ fk1 + gk)
    (wk : gk + x ≤ hk ∧ fk + x ≤ hk) (w1 : hk1 = gk1 + x ∨ hk1 = fk1 + x) (hB : hj + hk1 ≤ 2 * hk)
    (hu : u = fk ∨ u = hj) (hv : fk1 ≤ v ∧ hk ≤ v) : u + hk1 ≤ v + hk := by
  rcases hu with hu | hu <;> rcases w1 with w1 | w1 <;> omega
theorem stepD {fk fk1 fk2 gk gk1 x v w hk hk1 : Int} (A1 : fk + fk2 ≤ 2 * fk1) (D1 : gk + fk2 ≤ gk1 + fk1)
    (wk : hk = gk + x ∨ hk = fk + x) (w1 : gk1 + x ≤ hk1 ∧ fk1 + x ≤ hk1) (hv : fk1 ≤ v ∧ hk ≤ v) (hw : w = fk2 ∨ w = hk1) : hk + w ≤ hk1 + v := by
  rcases hw with hw | hw <;> rcases wk with wk | wk <;> omega
theorem step0 {fk1 fk2 gk gk1 x v w hk hk1 : Int} (A1 : 0 + fk2 ≤ 2 * fk1) (C1 : 0 + gk1 ≤ fk1 + gk)
    (wk : gk + x ≤ hk ∧ 0 + x ≤ hk) (w1 : hk1 = gk1 + x ∨ hk1 = fk1 + x) (hv : fk1 ≤ v ∧ hk ≤ v) (hw : w = fk2 ∨ w = hk1) : 0 + w ≤ 2 * v := by
  rcases hw with hw | hw <;> rcases w1 with w1 | w1 <;> omega
theorem max_facts (a b x : Int) : (max a b + x = a + x ∨ max a b + x = b + x) ∧ (a + x ≤ max a b + x ∧ b + x ≤ max a b + x) := by omega
theorem max_facts0 (a b : Int) : (max a b = a ∨ max a b = b) ∧ (a ≤ max a b ∧ b ≤ max a b) := by omega
/-- each stretch more brings no more than the one before -/
theorem sev_conc (ns : List Int) : ∀ i k, sevF ns k i + sevF ns (k + 2) i ≤ 2 * sevF ns (k + 1) i ∧ sevG ns k i + sevG ns (k + 2) i ≤ 2 * sevG ns (k + 1) i ∧
    sevF ns k i + sevG ns (k + 1) i ≤ sevF ns (k + 1) i + sevG ns k i ∧ sevG ns k i + sevF ns (k + 2) i ≤ sevG ns (k + 1) i + sevF ns (k + 1) i
  | 0, k => by
    simp only [sevF_at0, sevG_at0]
    omega
  | i + 1, k => by
    obtain ⟨a, b, c, d⟩ := sev_conc ns i k
    have gf : ∀ k, (sevG ns k (i + 1) = sevG ns k i + nth ns i ∨ sevG ns k (i + 1) = sevF ns k i + nth ns i) ∧ (sevG ns k i + nth ns i ≤ sevG ns k (i + 1) ∧ sevF ns k i + nth ns i ≤ sevG ns k (i + 1)) := fun k => max_facts _ _ _
    have ff : ∀ k, (sevF ns (k + 1) (i + 1) = sevF ns (k + 1) i ∨ sevF ns (k + 1) (i + 1) = sevG ns k (i + 1)) ∧ (sevF ns (k + 1) i ≤ sevF ns (k + 1) (i + 1) ∧ sevG ns k (i + 1) ≤ sevF ns (k + 1) (i + 1)) := fun k => max_facts0 _ _
    have hB : sevG ns k (i + 1) + sevG ns (k + 2) (i + 1) ≤ 2 * sevG ns (k + 1) (i + 1) := stepB a b c d
    refine ⟨?_, hB, ?_, stepD a d (gf k).1 (gf (k + 1)).2 (ff k).2 (ff (k + 1)).1⟩
    · cases k with
      | zero => exact step0 (x := nth ns i) a c (gf 0).2 (gf 1).1 (ff 0).2 (ff 1).1
      | succ j =>
        obtain ⟨a0, b0, c0, d0⟩ := sev_conc ns i j
        have hBj : sevG ns j (i + 1) + sevG ns (j + 2) (i + 1) ≤ 2 * sevG ns (j + 1) (i + 1) := stepB a0 b0 c0 d0
        exact stepA a0 a c d0 (gf j).1 (gf (j + 1)).2 (gf (j + 2)).1 hBj (ff j).1 (ff (j + 1)).2 (ff (j + 2)).1
    · cases k with
      | zero =>
        have h1 := (gf 0).2
        have h2 := (ff 0).2
        have c' : 0 + sevG ns 1 i ≤ sevF ns 1 i + sevG ns 0 i := c
        have h1' : sevG ns 0 i + nth ns i ≤ sevG ns 0 (i + 1) ∧ 0 + nth ns i ≤ sevG ns 0 (i + 1) := h1
        show 0 + sevG ns 1 (i + 1) ≤ sevF ns 1 (i + 1) + sevG ns 0 (i + 1)
        have h2' : sevF ns 1 i ≤ sevF ns 1 (i + 1) ∧ sevG ns 0 (i + 1) ≤ sevF ns 1 (i + 1) := h2
        have h3 : sevG ns 1 (i + 1) = sevG ns 1 i + nth ns i ∨ sevG ns 1 (i + 1) = sevF ns 1 i + nth ns i := (gf 1).1
        rcases h3 with h3 | h3 <;> omega
      | succ j =>
        obtain ⟨a0, b0, c0, d0⟩ := sev_conc ns i j
        have hBj : sevG ns j (i + 1) + sevG ns (j + 2) (i + 1) ≤ 2 * sevG ns (j + 1) (i + 1) := stepB a0 b0 c0 d0
        exact stepC c (gf (j + 1)).2 (gf (j + 2)).1 hBj (ff j).1 (ff (j + 1)).2
/-- at the price of the m-th stretch m stretches are best -/
theorem conc_best {a : Nat → Int} (hc : ∀ k, a k + a (k + 2) ≤ 2 * a (k + 1)) (m : Nat) {p : Int} (hp : p = a (m + 1) - a m) (k : Nat) : a k - p * k ≤ a m - p * m := by
  have dn : ∀ j i, a (i + j + 1) - a (i + j) ≤ a (i + 1) - a i := by
    intro j
    induction j with
    | zero => intro i; exact Int.le_refl _
    | succ j ih =>
      intro i
      have h1 := ih i
      have h2 : a (i + j) + a (i + j + 1 + 1) ≤ 2 * a (i + j + 1) := hc (i + j)
      rw [show i + (j + 1) = i + j + 1 by omega]
      omega
  have up : ∀ j, a (m + j) ≤ a m + p * j := by
    intro j
    induction j with
    | zero => simp
    | succ j ih =>
      have h1 := dn j m
      have e : p * ((j + 1 : Nat) : Int) = p * j + p := by rw [Int.natCast_add, Int.mul_add]; simp
      rw [e, show m + (j + 1) = m + j + 1 by omega]
      omega
  have down : ∀ j i, i + j = m → a i + p * j ≤ a m := by
    intro j
    induction j with
    | zero => intro i h; simp at h; subst h; simp
    | succ j ih =>
      intro i h
      have h1 := dn (m - i) i
      have h2 := ih (i + 1) (by omega)
      have e : p * ((j + 1 : Nat) : Int) = p * j + p := by rw [Int.natCast_add, Int.mul_add]; simp
      rw [show i + (m - i) = m by omega] at h1
      rw [e]
      omega
  rcases Nat.le_total k m with h | h
  · have := down (m - k) k (by omega)
    have e : p * (m : Int) = p * k + p * ((m - k : Nat) : Int) := by rw [← Int.mul_add]; congr 1; omega
    rw [e]
    omega
  · have := up (k - m)
    rw [show m + (k - m) = k by omega] at this
    have e : p * (k : Int) = p * m + p * ((k - m : Nat) : Int) := by rw [← Int.mul_add]; congr 1; omega
    rw [e]
    omega
/-! ### bounds at a price -/
/-- what stands outs at i, and ins before i -/
def bnd (ns : List Int) (p : Int) : Nat → Int × Int
  | 0 => (0, 0)
  | i + 1 => (max (bnd ns p i).1 (if i = 0 then (bnd ns p i).1 - p + nth ns i else max ((bnd ns p i).1 - p + nth ns i) ((bnd ns p i).2 + nth ns i)),
      if i = 0 then (bnd ns p i).1 - p + nth ns i else max ((bnd ns p i).1 - p + nth ns i) ((bnd ns p i).2 + nth ns i))
def outsTo (ns : List Int) (p : Int) (n : Nat) : List Int := (List.range (n + 1)).map fun i => (bnd ns p i).1
def insTo (ns : List Int) (p : Int) (n : Nat) : List Int := (List.range n).map fun i => (bnd ns p (i + 1)).2
theorem outsTo_length (ns : List Int) (p : Int) (n : Nat) : (outsTo ns p n).length = n + 1 := by simp [outsTo]
theorem insTo_length (ns : List Int) (p : Int) (n : Nat) : (insTo ns p n).length = n := by simp [insTo]
theorem nth_outsTo (ns : List Int) (p : Int) {n i : Nat} (h : i ≤ n) : nth (outsTo ns p n) i = (bnd ns p i).1 := by
  have : i < n + 1 := by omega
  simp [nth, outsTo, this]
theorem nth_insTo (ns : List Int) (p : Int) {n i : Nat} (h : i < n) : nth (insTo ns p n) i = (bnd ns p (i + 1)).2 := by
  simp [nth, insTo, h]
theorem outsTo_succ (ns : List Int) (p : Int) (n : Nat) : outsTo ns p (n + 1) = outsTo ns p n ++ [(bnd ns p (n + 1)).1] := by
  unfold outsTo
  rw [List.range_succ, List.map_append]
  rfl
theorem insTo_succ (ns : List Int) (p : Int) (n : Nat) : insTo ns p (n + 1) = insTo ns p n ++ [(bnd ns p (n + 1)).2] := by
  unfold insTo
  rw [List.range_succ, List.map_append]
  rfl
/-- each bound follows from those before -/
def GoodAt (ns : List Int) (p : Int) (outs ins : List Int) (i : Nat) : Prop :=
  nth outs i - p + nth ns i ≤ nth ins i ∧ nth outs i ≤ nth outs ((i : Int) + 1) ∧ nth ins i ≤ nth outs ((i : Int) + 1) ∧ (0 < i → nth ins ((i : Int) - 1) + nth ns i ≤ nth ins i)
instance (ns : List Int) (p : Int) (outs ins : List Int) (i : Nat) : Decidable (GoodAt ns p outs ins i) := by unfold GoodAt; infer_instance
def Bounds (ns : List Int) (p : Int) (outs ins : List Int) : Prop := 0 ≤ nth outs 0 ∧ ∀ i : Nat, i < ns.length → GoodAt ns p outs ins i
instance (ns : List Int) (p : Int) (outs ins : List Int) : Decidable (Bounds ns p outs ins) := by unfold Bounds; infer_instance
theorem bounds_good (ns : List Int) (p : Int) : Bounds ns p (outsTo ns p ns.length) (insTo ns p ns.length) := by
  refine ⟨?_, fun i hi => ?_⟩
  · have := nth_outsTo ns p (n := ns.length) (i := 0) (by omega)
    rw [show (0 : Int) = ((0 : Nat) : Int) from rfl, this]
    exact Int.le_refl _
  · have o0 := nth_outsTo ns p (n := ns.length) (i := i) (by omega)
    have o1 := nth_outsTo ns p (n := ns.length) (i := i + 1) (by omega)
    have i0 := nth_insTo ns p (n := ns.length) (i := i) hi
    have e : ((i + 1 : Nat) : Int) = (i : Int) + 1 := rfl
    rw [e] at o1
    unfold GoodAt
    rw [o0, o1, i0]
    have b1 : (bnd ns p (i + 1)).2 = if i = 0 then (bnd ns p i).1 - p + nth ns i else max ((bnd ns p i).1 - p + nth ns i) ((bnd ns p i).2 + nth ns i) := rfl
    have b2 : (bnd ns p (i + 1)).1 = max (bnd ns p i).1 (bnd ns p (i + 1)).2 := rfl
    refine ⟨by rw [b1]; split <;> omega, by rw [b2]; omega, by rw [b2]; omega, fun h0 => ?_⟩
    obtain ⟨j, rfl⟩ : ∃ j, i = j + 1 := ⟨i - 1, by omega⟩
    have ij := nth_insTo ns p (n := ns.length) (i := j) (by omega)
    rw [show ((j + 1 : Nat) : Int) - 1 = (j : Int) by omega, ij, b1, if_neg (by omega)]
    omega
/-- the bounds lie on what so many stretches have -/
theorem bnd_le (ns : List Int) (p : Int) : ∀ i, (∃ k : Nat, (bnd ns p i).1 ≤ sevF ns k i - p * k) ∧ (0 < i → ∃ k : Nat, (bnd ns p i).2 ≤ sevG ns k i - p * (k + 1))
  | 0 => ⟨⟨0, by simp [bnd, sevF_zero]⟩, fun h => by omega⟩
  | i + 1 => by
    obtain ⟨⟨k1, h1⟩, h2⟩ := bnd_le ns p i
    have b1 : (bnd ns p (i + 1)).2 = if i = 0 then (bnd ns p i).1 - p + nth ns i else max ((bnd ns p i).1 - p + nth ns i) ((bnd ns p i).2 + nth ns i) := rfl
    have b2 : (bnd ns p (i + 1)).1 = max (bnd ns p i).1 (bnd ns p (i + 1)).2 := rfl
    have ea : (bnd ns p i).1 - p + nth ns i ≤ sevG ns k1 (i + 1) - p * (k1 + 1) := by
      rw [sevG_succ, Int.mul_add, Int.mul_one]
      omega
    have h3 : ∃ k : Nat, (bnd ns p (i + 1)).2 ≤ sevG ns k (i + 1) - p * (k + 1) := by
      by_cases c : i = 0
      · rw [b1, if_pos c]
        exact ⟨k1, ea⟩
      · obtain ⟨k2, h2⟩ := h2 (by omega)
        have eb : (bnd ns p i).2 + nth ns i ≤ sevG ns k2 (i + 1) - p * (k2 + 1) := by
          rw [sevG_succ]
          omega
        rw [b1, if_neg c]
        rcases Int.le_total ((bnd ns p i).1 - p + nth ns i) ((bnd ns p i).2 + nth ns i) with q | q
        · exact ⟨k2, by omega⟩
        · exact ⟨k1, by omega⟩
    refine ⟨?_, fun _ => h3⟩
    obtain ⟨k3, h3⟩ := h3
    rw [b2]
    rcases Int.le_total (bnd ns p i).1 (bnd ns p (i + 1)).2 with q | q
    · refine ⟨k3 + 1, ?_⟩
      have := sevF_succ ns k3 i
      rw [Int.natCast_add]
      show _ ≤ _ - p * ((k3 : Int) + 1)
      omega
    · refine ⟨k1, ?_⟩
      have := sevF_mono_i ns k1 i
      omega
/-- how many are counted -/
def sevM (ns : List Int) (many : Int) : Nat := (min many ns.length).toNat
def sevP (ns : List Int) (m : Nat) : Int := sevF ns (m + 1) ns.length - sevF ns m ns.length
theorem sevP_nonneg (ns : List Int) (m : Nat) : 0 ≤ sevP ns m := by
  have := (sev_mono_k ns ns.length m).1
  unfold sevP
  omega
theorem sev_told (ns : List Int) {many : Int} (h0 : 0 ≤ many) {m : Nat} (hm : m = sevM ns many) : nth (outsTo ns (sevP ns m) ns.length) ns.length + sevP ns m * many ≤ sevF ns m ns.length := by
  rw [nth_outsTo ns _ (Nat.le_refl _)]
  obtain ⟨k, h⟩ := (bnd_le ns (sevP ns m) ns.length).1
  have h2 := conc_best (a := fun k => sevF ns k ns.length) (fun k => (sev_conc ns ns.length k).1) m (p := sevP ns m) rfl k
  have h2' : sevF ns k ns.length - sevP ns m * k ≤ sevF ns m ns.length - sevP ns m * m := h2
  have h3 : sevP ns m * many = sevP ns m * m := by
    by_cases c : many ≤ ns.length
    · have : (m : Int) = many := by rw [hm]; unfold sevM; omega
      rw [this]
    · have e : m = ns.length := by rw [hm]; unfold sevM; omega
      have : sevP ns m = 0 := by
        unfold sevP
        rw [(sev_flat ns ns.length m (by omega)).1]
        omega
      rw [this]
      simp
  omega
/-! ### where stretches begin -/
def BegAt (ns : List Int) (b : Nat → Int) (gs : List Int) (i : Nat) : Prop :=
  (nth gs i = -1 ∧ bestF ns b i = bestF ns b (i - 1)) ∨ ∃ s : Nat, nth gs i = s ∧ s < i ∧ bestF ns b i = b s + (pre ns i - pre ns s)
/-- one turn of added: i turns are done -/
structure AddTo (ns : List Int) (b : Nat → Int) (i : Nat) (fs gs : List Int) (run beg : Int) : Prop where
  fs : fs = (List.range (i + 1)).map (bestF ns b)
  gl : gs.length = i + 1
  rn : run = runF ns b i
  bg : 0 < i → ∃ s : Nat, beg = s ∧ s < i ∧ runF ns b i = b s + (pre ns i - pre ns s)
  ga : ∀ j, j ≤ i → BegAt ns b gs j
theorem addTo_zero (ns : List Int) (b : Nat → Int) : AddTo ns b 0 [b 0] [-1] (b 0) 0 :=
  ⟨rfl, rfl, rfl, fun h => by omega, fun j hj => by
    have e : j = 0 := by omega
    subst e
    exact .inl ⟨rfl, rfl⟩⟩
theorem addTo_last {ns fs gs : List Int} {b : Nat → Int} {i : Nat} {run beg : Int} (h : AddTo ns b i fs gs run beg) : nth fs (-1 + (fs.length : Int)) = bestF ns b i := by
  rw [h.fs, List.length_map, List.length_range, show (-1 + ((i + 1 : Nat) : Int)) = (i : Int) by omega]
  simp [nth]
theorem addTo_step {ns fs gs : List Int} {b : Nat → Int} {i : Nat} {run beg run1 beg1 : Int} (h : AddTo ns b i fs gs run beg) (hi : i < ns.length)
    (hc : (run1 = b i ∧ beg1 = i ∧ (i = 0 ∨ run < b i)) ∨ (run1 = run ∧ beg1 = beg ∧ i ≠ 0 ∧ b i ≤ run)) :
    (bestF ns b i < run1 + nth ns i → AddTo ns b (i + 1) (fs ++ [run1 + nth ns i]) (gs ++ [beg1]) (run1 + nth ns i) beg1) ∧
    (¬ bestF ns b i < run1 + nth ns i → AddTo ns b (i + 1) (fs ++ [bestF ns b i]) (gs ++ [-1]) (run1 + nth ns i) beg1) := by
  obtain ⟨hf, hg, hr, hb, ha⟩ := h
  have hrs : runF ns b (i + 1) = max (runF ns b i) (b i) + nth ns i := rfl
  have hbs : bestF ns b (i + 1) = max (bestF ns b i) (runF ns b (i + 1)) := rfl
  have hp := pre_succ hi
  have r1 : run1 + nth ns i = runF ns b (i + 1) := by
    rw [hrs, ← hr]
    rcases hc with ⟨c1, _, c3⟩ | ⟨c1, _, _, c3⟩
    · rcases c3 with c3 | c3
      · subst c3
        rw [c1, hr]
        show b 0 + _ = max (b 0) (b 0) + _
        omega
      · omega
    · omega
  have bg1 : ∃ s : Nat, beg1 = s ∧ s < i + 1 ∧ runF ns b (i + 1) = b s + (pre ns (i + 1) - pre ns s) := by
    rcases hc with ⟨c1, c2, _⟩ | ⟨c1, c2, c3, _⟩
    · exact ⟨i, c2, by omega, by rw [← r1, c1, hp]; omega⟩
    · obtain ⟨s, s1, s2, s3⟩ := hb (by omega)
      exact ⟨s, by rw [c2]; exact s1, by omega, by rw [← r1, c1, hr, s3, hp]; omega⟩
  have gn : ∀ z : Int, ∀ j, j ≤ i → BegAt ns b (gs ++ [z]) j := by
    intro z j hj
    have e : nth (gs ++ [z]) (j : Int) = nth gs j := nth_append_left (by omega) (by omega)
    unfold BegAt
    rw [e]
    exact ha j hj
  have gi : ∀ z : Int, nth (gs ++ [z]) ((i + 1 : Nat) : Int) = z := by
    intro z
    rw [← hg]
    exact nth_append_last
  have fsn : ∀ z : Int, z = bestF ns b (i + 1) → fs ++ [z] = (List.range (i + 1 + 1)).map (bestF ns b) := by
    intro z e
    rw [List.range_succ, List.map_append, ← hf, e]
    rfl
  constructor
  · intro q
    refine ⟨fsn _ (by rw [hbs, ← r1]; omega), by simp [hg], r1, fun _ => bg1, fun j hj => ?_⟩
    by_cases e : j = i + 1
    · subst e
      obtain ⟨s, s1, s2, s3⟩ := bg1
      refine .inr ⟨s, by rw [gi]; exact s1, s2, ?_⟩
      rw [← s3, hbs, ← r1]
      omega
    · exact gn _ j (by omega)
  · intro q
    refine ⟨fsn _ (by rw [hbs, ← r1]; omega), by simp [hg], r1, fun _ => bg1, fun j hj => ?_⟩
    by_cases e : j = i + 1
    · subst e
      refine .inl ⟨gi _, ?_⟩
      show bestF ns b (i + 1) = bestF ns b i
      rw [hbs, ← r1]
      omega
    · exact gn _ j (by omega)
/-! ### stretches one behind the other -/
structure P2 where
  ad : Addr
  f : Int
  c : Int
def Pairs2 (H : Hp) (ps : List P2) : Prop := ∀ z ∈ ps, H z.ad = some (.tup [.int z.f, .int z.c])
def refs2 (ps : List P2) : List V := ps.map fun z => V.ref z.ad
theorem refs2_length (ps : List P2) : (refs2 ps).length = ps.length := by simp [refs2]
theorem Pairs2.same {H H' : Hp} {ps : List P2} (h : Pairs2 H ps) (s : Same H H') : Pairs2 H' ps := fun z hz => s _ _ (h z hz)
theorem refs2_at {ps : List P2} {i : Nat} {x : V} (h : (refs2 ps)[i]? = some x) : ∃ (hi : i < ps.length), x = .ref ps[i].ad := by
  unfold refs2 at h
  rw [List.getElem?_map] at h
  by_cases hi : i < ps.length
  · rw [List.getElem?_eq_getElem hi] at h
    exact ⟨hi, (Option.some.inj h).symm⟩
  · rw [List.getElem?_eq_none (by omega)] at h
    cases h
/-- ordered, in their places -/
def Fits (n : Int) : Int → List P2 → Prop
  | _, [] => True
  | p, z :: r => p ≤ z.f ∧ IsThere z.f z.c n ∧ Fits n (z.f + z.c) r
def fitsDec (n : Int) : (p : Int) → (ps : List P2) → Decidable (Fits n p ps)
  | _, [] => .isTrue trivial
  | p, z :: r => by
    have := fitsDec n (z.f + z.c) r
    unfold Fits
    infer_instance
instance (n p : Int) (ps : List P2) : Decidable (Fits n p ps) := fitsDec n p ps
def sumS (ns : List Int) (ps : List P2) : Int := (ps.map fun z => segS ns z.f z.c).sum
theorem fits_drop {n p : Int} {ps : List P2} (h : Fits n p ps) {i : Nat} (hi : i < ps.length) : ∃ q, Fits n q (ps.drop i) := by
  induction ps generalizing p i with
  | nil => cases hi
  | cons z r ih =>
    cases i with
    | zero => exact ⟨p, h⟩
    | succ i =>
      rw [List.length_cons] at hi
      exact ih h.2.2 (by omega)
theorem fits_mem {n : Int} : ∀ {p : Int} {ps : List P2}, Fits n p ps → ∀ z ∈ ps, IsThere z.f z.c n
  | _, z :: r, h, y, hy => by
    rcases List.mem_cons.mp hy with e | e
    · subst e; exact h.2.1
    · exact fits_mem h.2.2 y e
/-- what several shows -/
structure SevShow (ns : List Int) (many : Int) (ps : List P2) (p : Int) (outs ins : List Int) : Prop where
  ln : (ps.length : Int) ≤ many
  p0 : 0 ≤ p
  ol : outs.length = ns.length + 1
  il : ins.length = ns.length
  ft : Fits ns.length 0 ps
  bd : Bounds ns p outs ins
  td : nth outs ns.length + p * many ≤ sumS ns ps
theorem sevShow_iff (ns : List Int) (many : Int) (ps : List P2) (p : Int) (outs ins : List Int) : SevShow ns many ps p outs ins ↔
    (((ps.length : Int) ≤ many ∧ 0 ≤ p ∧ outs.length = ns.length + 1 ∧ ins.length = ns.length) ∧ Fits ns.length 0 ps ∧ Bounds ns p outs ins ∧ nth outs ns.length + p * many ≤ sumS ns ps) :=
  ⟨fun ⟨a, b, c, d, e, f, g⟩ => ⟨⟨a, b, c, d⟩, e, f, g⟩, fun ⟨⟨a, b, c, d⟩, e, f, g⟩ => ⟨a, b, c, d, e, f, g⟩⟩
instance (ns : List Int) (many : Int) (ps : List P2) (p : Int) (outs ins : List Int) : Decidable (SevShow ns many ps p outs ins) := decidable_of_iff' _ (sevShow_iff ns many ps p outs ins)
/-- one turn of stretches_of -/
structure BackTo (ns : List Int) (m at' level : Nat) (ps : List P2) : Prop where
  an : at' ≤ ns.length
  ln : ps.length + level ≤ m
  ft : Fits ns.length at' ps.reverse
  sm : sumS ns ps + sevF ns level at' = sevF ns m ns.length
theorem backTo_zero (ns : List Int) (m : Nat) : BackTo ns m ns.length m [] := ⟨Nat.le_refl _, by simp, trivial, by simp [sumS]⟩
theorem fits_weak {n p q : Int} {ps : List P2} (h : Fits n p ps) (hq : q ≤ p) : Fits n q ps := by
  cases ps with
  | nil => trivial
  | cons z r => exact ⟨by have := h.1; omega, h.2⟩
theorem backTo_skip {ns : List Int} {m at' level : Nat} {ps : List P2} (h : BackTo ns m (at' + 1) level ps) (e : sevF ns level (at' + 1) = sevF ns level at') : BackTo ns m at' level ps :=
  ⟨by have := h.an; omega, h.ln, fits_weak h.ft (by omega), by rw [← e]; exact h.sm⟩
theorem backTo_take {ns : List Int} {m at' level s : Nat} {ps : List P2} (h : BackTo ns m at' (level + 1) ps) (hs : s < at') (e : sevF ns (level + 1) at' = sevF ns level s + (pre ns at' - pre ns s)) (T : Addr) :
    BackTo ns m s level (ps ++ [⟨T, s, (at' : Int) - s⟩]) := by
  obtain ⟨an, ln, ft, sm⟩ := h
  refine ⟨by omega, by simp; omega, ?_, ?_⟩
  · rw [List.reverse_append, List.reverse_singleton, List.singleton_append]
    refine ⟨Int.le_refl _, ⟨by show 0 ≤ (s : Int); omega, by show 1 ≤ (at' : Int) - s; omega, by show (s : Int) + ((at' : Int) - s) ≤ _; omega⟩, ?_⟩
    show Fits _ ((s : Int) + ((at' : Int) - s)) _
    rw [show (s : Int) + ((at' : Int) - s) = at' by omega]
    exact ft
  · have e2 : segS ns s ((at' : Int) - s) = pre ns at' - pre ns s := by
      rw [segS_pre ns (by omega) (by omega) (by omega), show (s : Int) + ((at' : Int) - s) = at' by omega, nth_psums ns an, nth_psums ns (by omega)]
    have e3 : sumS ns (ps ++ [⟨T, s, (at' : Int) - s⟩]) = sumS ns ps + (pre ns at' - pre ns s) := by
      unfold sumS
      rw [List.map_append, List.sum_append]
      simp [e2]
    rw [e3]
    omega
theorem sumS_rev (ns : List Int) (ps : List P2) : sumS ns ps.reverse = sumS ns ps := by
  unfold sumS
  rw [List.map_reverse, List.sum_reverse]
/-- the answer of several -/
structure SevOf (ns : List Int) (many : Int) (ps : List P2) (p : Int) (outs ins : List Int) : Prop where
  sh : SevShow ns many ps p outs ins
theorem sev_answer {ns : List Int} {many : Int} (h0 : 0 ≤ many) {m : Nat} (hm : m = sevM ns many) {ps : List P2} {at' level : Nat} (B : BackTo ns m at' level ps) (he : level = 0 ∨ at' = 0) :
    SevShow ns many ps.reverse (sevP ns m) (outsTo ns (sevP ns m) ns.length) (insTo ns (sevP ns m) ns.length) := by
  obtain ⟨an, ln, ft, sm⟩ := B
  have hz : sevF ns level at' = 0 := by
    rcases he with e | e
    · subst e; rfl
    · subst e; exact sevF_at0 ns level
  have hmm : (m : Int) ≤ many := by rw [hm]; unfold sevM; omega
  refine ⟨by rw [List.length_reverse]; omega, sevP_nonneg ns m, outsTo_length _ _ _, insTo_length _ _ _, fits_weak ft (by omega), bounds_good ns _, ?_⟩
  rw [sumS_rev]
  have := sev_told ns h0 hm
  omega
theorem sumS_take (ns : List Int) {ps : List P2} {i : Nat} (hi : i < ps.length) : sumS ns (ps.take (i + 1)) = sumS ns (ps.take i) + segS ns ps[i].f ps[i].c := by
  unfold sumS
  rw [List.take_succ_eq_append_getElem hi, List.map_append, List.sum_append]
  simp
theorem drop_cons2 {ps : List P2} {i : Nat} (hi : i < ps.length) : ps.drop i = ps[i] :: ps.drop (i + 1) := List.drop_eq_getElem_cons hi
theorem fits_turn {n q : Int} {ps : List P2} {i : Nat} (hi : i < ps.length) : Fits n q (ps.drop i) ↔ (q ≤ ps[i].f ∧ IsThere ps[i].f ps[i].c n ∧ Fits n (ps[i].f + ps[i].c) (ps.drop (i + 1))) := by
  rw [drop_cons2 hi]
  exact Iff.rfl
theorem pairs2_new {H : Hp} {ps : List P2} {p : Addr} {o : HO} (h : Pairs2 H ps) (n : H p = none) : Pairs2 (upd H p o) ps := fun z hz => at_new (h z hz) n
theorem pairs2_mut {H : Hp} {ps : List P2} {p : Addr} {o : HO} {xs : List V} (h : Pairs2 H ps) (hp : H p = some (.lst xs)) : Pairs2 (upd H p o) ps := fun z hz => by
  rw [upd_ne (ne_of (h z hz) hp (by intro e; cases e))]
  exact h z hz
theorem pairs2_rev {H : Hp} {ps : List P2} (h : Pairs2 H ps) : Pairs2 H ps.reverse := fun z hz => h z (by simpa using hz)
theorem refs2_rev (ps : List P2) : refs2 ps.reverse = (refs2 ps).reverse := by simp [refs2]
theorem refs2_snoc (ps : List P2) (z : P2) : refs2 (ps ++ [z]) = refs2 ps ++ [.ref z.ad] := by simp [refs2]
/-! ### levels -/
structure L4 where
  ad : Addr
  fa : Addr
  ga : Addr
  gs : List Int
def refsL (ls : List L4) : List V := ls.map fun z => V.ref z.ad
theorem refsL_length (ls : List L4) : (refsL ls).length = ls.length := by simp [refsL]
theorem refsL_snoc (ls : List L4) (z : L4) : refsL (ls ++ [z]) = refsL ls ++ [.ref z.ad] := by simp [refsL]
theorem refsL_get {ls : List L4} {i : Nat} (hi : i < ls.length) : (refsL ls)[i]? = some (.ref ls[i].ad) := by simp [refsL, hi]
theorem atI_refsL {ls : List L4} {i : Nat} (hi : i < ls.length) {z : Int} (e : z = i) : atI (refsL ls) z = some (.ref ls[i].ad) := by
  subst e
  exact atI_nat (refsL_get hi)
theorem atI_refsLneg {ls : List L4} {d : Nat} {i : Nat} (hi : i < ls.length) {z : Int} (e : z + ls.length = i) (hz : z < 0) : atI (refsL ls) z = some (.ref ls[i].ad) := by
  unfold atI ixN
  rw [if_neg (by omega), if_pos (by rw [refsL_length]; omega), refsL_length]
  show (refsL ls)[(z + (ls.length : Int)).toNat]? = _
  rw [e]
  exact refsL_get hi
def tabF (ns : List Int) (b : Nat → Int) : List Int := (List.range (ns.length + 1)).map b
theorem tabF_length (ns : List Int) (b : Nat → Int) : (tabF ns b).length = ns.length + 1 := by simp [tabF]
theorem nth_tabF (ns : List Int) (b : Nat → Int) {i : Nat} (h : i ≤ ns.length) : nth (tabF ns b) i = b i := by
  have : i < ns.length + 1 := by omega
  simp [nth, tabF, this]
def LvAt (H : Hp) (ns : List Int) (k : Nat) (z : L4) : Prop := H z.ad = some (.tup [.ref z.fa, .ref z.ga]) ∧ H z.fa = some (.lst ((tabF ns (sevF ns k)).map V.int)) ∧ H z.ga = some (.lst (z.gs.map V.int)) ∧
  (0 < k → z.gs.length = ns.length + 1 ∧ ∀ j, j ≤ ns.length → BegAt ns (sevF ns (k - 1)) z.gs j)
def Levels (H : Hp) (ns : List Int) (ls : List L4) : Prop := ∀ k, (h : k < ls.length) → LvAt H ns k ls[k]
theorem LvAt.same {H H' : Hp} {ns : List Int} {k : Nat} {z : L4} (h : LvAt H ns k z) (s : Same H H') : LvAt H' ns k z := ⟨s _ _ h.1, s _ _ h.2.1, s _ _ h.2.2.1, h.2.2.2⟩
theorem Levels.same {H H' : Hp} {ns : List Int} {ls : List L4} (h : Levels H ns ls) (s : Same H H') : Levels H' ns ls := fun k hk => (h k hk).same s
theorem Levels.mut {H : Hp} {ns : List Int} {ls : List L4} {p : Addr} {o : HO} (h : Levels H ns ls) (hn : ∀ k, (hk : k < ls.length) → ls[k].ad ≠ p ∧ ls[k].fa ≠ p ∧ ls[k].ga ≠ p) : Levels (upd H p o) ns ls := fun k hk => by
  obtain ⟨a, b, c, d⟩ := h k hk
  obtain ⟨n1, n2, n3⟩ := hn k hk
  exact ⟨(upd_ne n1).trans a, (upd_ne n2).trans b, (upd_ne n3).trans c, d⟩
theorem Levels.snoc {H : Hp} {ns : List Int} {ls : List L4} {z : L4} (h : Levels H ns ls) (hz : LvAt H ns ls.length z) : Levels H ns (ls ++ [z]) := fun k hk => by
  by_cases e : k < ls.length
  · rw [List.getElem_append_left e]
    exact h k e
  · have : k = ls.length := by rw [List.length_append, List.length_singleton] at hk; omega
    subst this
    rw [List.getElem_append_right (Nat.le_refl _)]
    simpa using hz
theorem Levels.take {H : Hp} {ns : List Int} {ls : List L4} (h : Levels H ns ls) (n : Nat) : Levels H ns (ls.take n) := fun k hk => by
  rw [List.getElem_take]
  exact h k (by rw [List.length_take] at hk; omega)
theorem cutV_but1 (ls : List L4) {n : Nat} (h : ls.length = n + 1) : cutV (refsL ls) none (some (-1)) = refsL (ls.take n) := by
  unfold cutV
  rw [refsL_length, h]
  have e1 : HT.sIx (n + 1) 0 none = 0 := rfl
  have e2 : HT.sIx (n + 1) (n + 1) (some (-1)) = n := by
    show (if (-1 : Int) < 0 then (-1 + ((n + 1 : Nat) : Int)).toNat else min (-1 : Int).toNat (n + 1)) = n
    rw [if_pos (by omega)]
    omega
  rw [e1, e2]
  simp [refsL]
/-! ### while -/
def kWh (P : Nat → L2.St → Hp → Prop) (m : Nat) (t : TS) (D : Ends) (σ : L2.St) : Bool → Hp → Prop := fun b H1 => if b = true then ∃ N : L2.St → Hp → Prop, (∀ σ' H', N σ' H' → ∃ m', m' < m ∧ P m' σ' H') ∧ t { D with nx := N, ct := N, bk := D.nx } σ H1 else D.nx σ H1
theorem whileC {c : TT} {t : TS} {D : Ends} {σ : L2.St} {H : Hp} (P : Nat → L2.St → Hp → Prop) (m0 : Nat) (h0 : P m0 σ H) (hs : ∀ m σ' H', P m σ' H' → c σ' H' (kWh P m t D σ')) : tWhile c t D σ H :=
  ⟨P, ⟨m0, h0⟩, hs⟩
theorem wp_kWh {P : Nat → L2.St → Hp → Prop} {m : Nat} {t : TS} {D : Ends} {σ : L2.St} {H : Hp} {b : Bool} (h1 : b = true → t { D with nx := fun σ2 H2 => ∃ m', m' < m ∧ P m' σ2 H2, ct := fun σ2 H2 => ∃ m', m' < m ∧ P m' σ2 H2, bk := D.nx } σ H) (h2 : b = false → D.nx σ H) : kWh P m t D σ b H := by
  cases b with
  | true => exact ⟨_, fun σ' H' z => z, h1 rfl⟩
  | false => exact h2 rfl
theorem wp_gSub {to ti : TE} {t : TSet} {v : V} {σ : L2.St} {H : Hp} {Q : L2.St → Hp → Prop} (q : to σ H fun o H1 => ti σ H1 fun i H2 => t o i v H2 fun H3 => Q σ H3) : gSub to ti t v σ H Q := q
theorem nth_snoc_last (xs : List Int) (y : Int) : nth (xs ++ [y]) (-1 + ((xs ++ [y]).length : Int)) = y := by
  rw [List.length_append, List.length_singleton, show (-1 + ((xs.length + 1 : Nat) : Int)) = (xs.length : Int) by omega]
  exact nth_append_last
theorem wp_setLastI {a : Addr} {H : Hp} {xs : List Int} {y z : Int} {k : Hp → Prop} (h : H a = some (.lst ((xs ++ [y]).map V.int))) (q : k (upd H a (.lst ((xs ++ [z]).map V.int)))) : rSetL (.ref a) (.int (-1)) (.int z) H k := by
  refine ⟨a, _, -1, xs.length, rfl, rfl, h, ?_, ?_⟩
  · rw [List.length_map, List.length_append, List.length_singleton]
    unfold ixN
    rw [if_neg (by omega), if_pos (by omega)]
    congr 1
    omega
  · have e : ((xs ++ [y]).map V.int).set xs.length (V.int z) = (xs ++ [z]).map V.int := by
      rw [List.map_append, List.map_append]
      simp
    rw [e]
    exact q
theorem bnd_ins (ns : List Int) (p : Int) (i : Nat) : (bnd ns p (i + 1)).2 = if i = 0 then (bnd ns p i).1 - p + nth ns i else max ((bnd ns p i).1 - p + nth ns i) ((bnd ns p i).2 + nth ns i) := rfl
theorem bnd_outs (ns : List Int) (p : Int) (i : Nat) : (bnd ns p (i + 1)).1 = max (bnd ns p i).1 (bnd ns p (i + 1)).2 := rfl
theorem max_if (i j : Int) : (if j > i then j else i) = max i j := by split <;> omega
theorem wp_join {t : TS} {σ : L2.St} {H : Hp} {c : Bool} {n : L2.St → Hp → Prop} {rt : VK} {bk ct : L2.St → Hp → Prop} (P : Hp → Prop) (h1 : c = true → ∀ n' : L2.St → Hp → Prop, (∀ H', P H' → n' σ H') → t (Ends.mk n' rt bk ct) σ H) (h2 : c = false → P H) (hn : ∀ H', P H' → n σ H') : kIfS t tNext (Ends.mk n rt bk ct) σ c H := by
  cases c with
  | true => exact h1 rfl n hn
  | false => exact hn _ (h2 rfl)
/-- over a list whose items the heap tells, each turn's value by v -/
theorem lcW2 {K : PySem.W.Frag} {H : Hp} {Q : VK} {te : TE} {σ : L2.St} {J : It} {n : Nat} {G : Hp → Prop} {X : Nat → V} {g : TG} {ws : List Nat} {σi : Nat → L2.St} (w : Walk J n G (fun i H x H' => H' = H ∧ x = X i)) (v : Nat → V) (hn : n ≤ 100000)
    (hG : ∀ H', Same H H' → G H') (hg : ∀ i H' k, i < n → Same H H' → k (σi i) H' → g (X i) (wipe σ ws) H' k) (hw : ∀ i, wipe (σi i) ws = wipe σ ws)
    (he : ∀ i H', i < n → Same H H' → ∀ Q' : VK, (∀ H'', Same H' H'' → Q' (v i) H'') → te (σi i) H' Q')
    (q : ∀ p H', H p = none → Same H H' → H' p = some (.lst ((List.range n).map v)) → Q (.ref p) H') : kLc g tYes te ws σ Q J H := by
  intro D hD
  refine lc_it w (Qd := fun H' => Q (.ref D) H') (fun i H' => Same H H' ∧ H' D = some (.lst ((List.range i).map v))) ⟨same_new (Same.refl H) hD, upd_same⟩ (fun i H' _ p => hG H' p.1) ?_ (fun H' p => q D H' hD p.1 p.2)
  rintro i x H1 H2 hi ⟨s1, d1⟩ ⟨rfl, rfl⟩
  refine hg i _ _ hi s1 ⟨hw i, wp_tYes ?_⟩
  rw [if_pos rfl]
  refine he i H2 hi s1 _ fun H4 s4 => ⟨_, s4 _ _ d1, szl (by rw [List.length_map, List.length_range]; omega), same_mut (s1.trans s4) hD, ?_⟩
  rw [List.range_succ, List.map_append]
  exact upd_same
theorem walkP {K : PySem.W.Frag} {a : Addr} {ps : List P2} : Walk (Itl K a) ps.length (fun H => SqL K H a (refs2 ps)) (fun i H x H' => H' = H ∧ x = .ref (ps.getD i ⟨0, 0, 0⟩).ad) := by
  have w := walk_list (K := K) (a := a) (xs := refs2 ps)
  rw [refs2_length] at w
  refine w.mono (fun _ h => h) fun i H x H' hi _ y => ⟨y.1, ?_⟩
  obtain ⟨_, e⟩ := refs2_at y.2
  rw [e]
  simp [hi]
theorem sumS_list (ns : List Int) (ps : List P2) : (List.range ps.length).map (fun i => V.int (segS ns (ps.getD i ⟨0, 0, 0⟩).f (ps.getD i ⟨0, 0, 0⟩).c)) = (ps.map fun z => segS ns z.f z.c).map V.int := by
  apply List.ext_getElem
  · simp
  · intro i h1 h2
    simp at h1
    simp [h1]
end Bs

namespace Bs
open PySem L2
def sp_Several_bounds (_ : PySem.W.Frag) (cs : Cs) : Sp := fun vs H Q _ => ∃ (x dx s l u a : Addr) (pr : Int) (outs ins ns : List Int), vs = [.ref x, .ref a] ∧ H x = some (.ins cs.Several dx (fSeveral s pr l u)) ∧ H l = some (.lst (outs.map V.int)) ∧ H u = some (.lst (ins.map V.int)) ∧ H a = some (.lst (ns.map V.int)) ∧
  outs.length = ns.length + 1 ∧ ins.length = ns.length ∧ ns.length ≤ 1000 ∧ RetV H Q (.bl (decide (Bounds ns pr outs ins)))
theorem len_Several_bounds {K : PySem.W.Frag} {cs : Cs} {vs : List V} {H : Hp} {Q : VK} {E : XK} (h : sp_Several_bounds K cs vs H Q E) : vs.length = 2 := by
  obtain ⟨_, _, _, _, _, _, _, _, _, _, rfl, _⟩ := h; rfl
def sp_is_there (_ : PySem.W.Frag) (_ : Cs) : Sp := fun vs H Q _ => ∃ f m l : Int, vs = [.int f, .int m, .int l] ∧ Q (.bl (decide (IsThere f m l))) H
theorem call_is_there {K : PySem.W.Frag} {cs : Cs} {f m l : Int} {H : Hp} {Q : VK} {E : XK} (q : Q (.bl (decide (IsThere f m l))) H) : sp_is_there K cs [.int f, .int m, .int l] H Q E := ⟨f, m, l, rfl, q⟩
theorem len_is_there {K : PySem.W.Frag} {cs : Cs} {vs : List V} {H : Hp} {Q : VK} {E : XK} (h : sp_is_there K cs vs H Q E) : vs.length = 3 := by
  obtain ⟨_, _, _, rfl, _⟩ := h; rfl
def sp_Several_shows (_ : PySem.W.Frag) (cs : Cs) : Sp := fun vs H Q _ => ∃ (x dx s l u a : Addr) (pr many : Int) (ps : List P2) (outs ins ns : List Int), vs = [.ref x, .ref a, .int many] ∧ H x = some (.ins cs.Several dx (fSeveral s pr l u)) ∧ H s = some (.lst (refs2 ps)) ∧ Pairs2 H ps ∧ H l = some (.lst (outs.map V.int)) ∧ H u = some (.lst (ins.map V.int)) ∧ H a = some (.lst (ns.map V.int)) ∧
  ns.length ≤ 1000 ∧ -100000000 ≤ many ∧ many ≤ 100000000 ∧ RetV H Q (.bl (decide (SevShow ns many ps pr outs ins)))
theorem len_Several_shows {K : PySem.W.Frag} {cs : Cs} {vs : List V} {H : Hp} {Q : VK} {E : XK} (h : sp_Several_shows K cs vs H Q E) : vs.length = 3 := by
  obtain ⟨_, _, _, _, _, _, _, _, _, _, _, _, rfl, _⟩ := h; rfl
def sp_l_bounds (_ : PySem.W.Frag) (_ : Cs) : Sp := fun vs H Q _ => ∃ (a l u : Addr) (pr : Int) (outs ins ns : List Int), vs = [.ref a, .int pr, .ref l, .ref u] ∧ H a = some (.lst (ns.map V.int)) ∧ H l = some (.lst (outs.map V.int)) ∧ H u = some (.lst (ins.map V.int)) ∧
  ns.length ≤ 1000 ∧ outs.length ≤ 1000 ∧ ins.length ≤ 1000 ∧ RetV H Q (.bl (decide (outs.length = ns.length + 1 ∧ ins.length = ns.length ∧ Bounds ns pr outs ins)))
theorem len_l_bounds {K : PySem.W.Frag} {cs : Cs} {vs : List V} {H : Hp} {Q : VK} {E : XK} (h : sp_l_bounds K cs vs H Q E) : vs.length = 4 := by
  obtain ⟨_, _, _, _, _, _, _, rfl, _⟩ := h; rfl
def sp_l_numbers (_ : PySem.W.Frag) (_ : Cs) : Sp := fun vs H Q _ => ∃ (a : Addr) (ns : List Int), vs = [.ref a] ∧ H a = some (.lst (ns.map V.int)) ∧ ns.length ≤ 1000 ∧ RetV H Q (.bl true)
theorem len_l_numbers {K : PySem.W.Frag} {cs : Cs} {vs : List V} {H : Hp} {Q : VK} {E : XK} (h : sp_l_numbers K cs vs H Q E) : vs.length = 1 := by
  obtain ⟨_, _, rfl, _⟩ := h; rfl
structure IsK06 (K : PySem.W.Frag) (cs : Cs) : Prop where
  i : IsiC K cs.Several
  k1 : PySem.W.kitOne K (.ref cs.Several) (.ref cs.Answer) = some true
  k2 : PySem.W.kitOne K (.ref cs.Several) (.ref cs.Several) = some true
  k3 : PySem.W.kitOne K (.ref cs.Several) (.ref cs.Best) = some false
  k4 : PySem.W.kitOne K (.ref cs.Several) (.ref cs.Steep) = some false
def sp_l_right_k06 (_ : PySem.W.Frag) (cs : Cs) : Sp := fun vs H Q _ => ∃ (x dx s l u a : Addr) (pr many : Int) (ps : List P2) (outs ins ns : List Int), vs = [.ref a, .int many, .ref x] ∧ H x = some (.ins cs.Several dx (fSeveral s pr l u)) ∧ H s = some (.lst (refs2 ps)) ∧ Pairs2 H ps ∧ H l = some (.lst (outs.map V.int)) ∧ H u = some (.lst (ins.map V.int)) ∧ H a = some (.lst (ns.map V.int)) ∧
  ns.length ≤ 900 ∧ -100000000 ≤ many ∧ many ≤ 100000000 ∧ SevShow ns many ps pr outs ins ∧ RetV H Q (.bl true)
theorem len_l_right_k06 {K : PySem.W.Frag} {cs : Cs} {vs : List V} {H : Hp} {Q : VK} {E : XK} (h : sp_l_right_k06 K cs vs H Q E) : vs.length = 3 := by
  obtain ⟨_, _, _, _, _, _, _, _, _, _, _, _, rfl, _⟩ := h; rfl
def sp_l_row (K : PySem.W.Frag) (_ : Cs) : Sp := fun vs H Q _ => ∃ (a : Addr) (ns : List Int), vs = [.ref a] ∧ SqL K H a (ns.map V.int) ∧ ns.length ≤ 1000 ∧ RetI H Q (lrow ns)
theorem len_l_row {K : PySem.W.Frag} {cs : Cs} {vs : List V} {H : Hp} {Q : VK} {E : XK} (h : sp_l_row K cs vs H Q E) : vs.length = 1 := by
  obtain ⟨_, _, rfl, _⟩ := h; rfl
def sp_Several_init (_ : PySem.W.Frag) (cs : Cs) : Sp := fun vs H Q _ => ∃ (p dx s a b : Addr) (pr : Int) (xs : List V) (ns ms : List Int), vs = [.ref p, .ref s, .int pr, .ref a, .ref b] ∧ H p = some (.ins cs.Several dx []) ∧ H s = some (.lst xs) ∧ H a = some (.lst (ns.map V.int)) ∧ H b = some (.lst (ms.map V.int)) ∧
  ∀ t l u H', H t = none → H l = none → H u = none → t ≠ l → t ≠ u → l ≠ u → (∀ b o, H b = some o → b ≠ p → H' b = some o) → H' p = some (.ins cs.Several dx (fSeveral t pr l u)) → H' t = some (.lst xs) → H' l = some (.lst (ns.map V.int)) → H' u = some (.lst (ms.map V.int)) → Q .non H'
theorem len_Several_init {K : PySem.W.Frag} {cs : Cs} {vs : List V} {H : Hp} {Q : VK} {E : XK} (h : sp_Several_init K cs vs H Q E) : vs.length = 5 := by
  obtain ⟨_, _, _, _, _, _, _, _, _, rfl, _⟩ := h; rfl
theorem make_Several {K : PySem.W.Frag} {cs : Cs} {H : Hp} {Q : VK} {E : XK} {s a b : Addr} {pr : Int} {xs : List V} {ns ms : List Int} (hs : H s = some (.lst xs)) (ha : H a = some (.lst (ns.map V.int))) (hb : H b = some (.lst (ms.map V.int)))
    (q : ∀ x dx t l u H', H x = none → H t = none → H l = none → H u = none → t ≠ l → t ≠ u → l ≠ u → Same H H' → H' x = some (.ins cs.Several dx (fSeveral t pr l u)) → H' t = some (.lst xs) → H' l = some (.lst (ns.map V.int)) → H' u = some (.lst (ms.map V.int)) → Q (.ref x) H') : kMake cs.Several (sp_Several_init K cs) [] E Q [.ref s, .int pr, .ref a, .ref b] H := by
  refine wp_kMake fun x dx nx nd ne => ?_
  have fr : ∀ l, (upd (upd H dx (.own x)) x (.ins cs.Several dx [])) l = none → H l = none := fun l nl => by
    by_cases e : l = x
    · rw [e]; exact nx
    · by_cases e2 : l = dx
      · rw [e2]; exact nd
      · rw [upd_ne e, upd_ne e2] at nl
        exact nl
  refine ⟨x, dx, s, a, b, pr, xs, ns, ms, rfl, upd_same, at_new (at_new hs nd) (free_upd nx (Ne.symm ne)), at_new (at_new ha nd) (free_upd nx (Ne.symm ne)), at_new (at_new hb nd) (free_upd nx (Ne.symm ne)), fun t l u H' nt nl nu ntl ntu nlu keep hx ht hl hu => ⟨rfl, ?_⟩⟩
  exact q x dx t l u H' nx (fr t nt) (fr l nl) (fr u nu) ntl ntu nlu (same_make nx nd keep) hx ht hl hu
def sp_added (_ : PySem.W.Frag) (_ : Cs) : Sp := fun vs H Q _ => ∃ (a b : Addr) (ns : List Int) (B : Nat → Int), vs = [.ref a, .ref b] ∧ H a = some (.lst (ns.map V.int)) ∧ H b = some (.lst ((tabF ns B).map V.int)) ∧ ns.length ≤ 1000 ∧
  ∀ (T f g : Addr) (gs : List Int) (H' : Hp), H T = none → H f = none → H g = none → Same H H' → H' T = some (.tup [.ref f, .ref g]) → H' f = some (.lst ((tabF ns (bestF ns B)).map V.int)) → H' g = some (.lst (gs.map V.int)) → gs.length = ns.length + 1 → (∀ j, j ≤ ns.length → BegAt ns B gs j) → Q (.ref T) H'
theorem len_added {K : PySem.W.Frag} {cs : Cs} {vs : List V} {H : Hp} {Q : VK} {E : XK} (h : sp_added K cs vs H Q E) : vs.length = 2 := by
  obtain ⟨_, _, _, _, rfl, _⟩ := h; rfl
def sp_is_number (_ : PySem.W.Frag) (_ : Cs) : Sp := fun vs H Q _ => ∃ i : Int, vs = [.int i] ∧ Q (.bl true) H
theorem call_is_number {K : PySem.W.Frag} {cs : Cs} {i : Int} {H : Hp} {Q : VK} {E : XK} (q : Q (.bl true) H) : sp_is_number K cs [.int i] H Q E := ⟨i, rfl, q⟩
theorem len_is_number {K : PySem.W.Frag} {cs : Cs} {vs : List V} {H : Hp} {Q : VK} {E : XK} (h : sp_is_number K cs vs H Q E) : vs.length = 1 := by
  obtain ⟨_, rfl, _⟩ := h; rfl
def sp_asked_many (_ : PySem.W.Frag) (_ : Cs) : Sp := fun vs H Q _ => ∃ i : Int, vs = [.int i] ∧ 0 ≤ i ∧ Q .non H
theorem len_asked_many {K : PySem.W.Frag} {cs : Cs} {vs : List V} {H : Hp} {Q : VK} {E : XK} (h : sp_asked_many K cs vs H Q E) : vs.length = 1 := by
  obtain ⟨_, rfl, _⟩ := h; rfl
def sp_asked_row (_ : PySem.W.Frag) (_ : Cs) : Sp := fun vs H Q _ => ∃ (a : Addr) (ns : List Int), vs = [.ref a] ∧ H a = some (.lst (ns.map V.int)) ∧ IsRow ns ∧ ns.length ≤ 1000 ∧ RetV H Q .non
theorem len_asked_row {K : PySem.W.Frag} {cs : Cs} {vs : List V} {H : Hp} {Q : VK} {E : XK} (h : sp_asked_row K cs vs H Q E) : vs.length = 1 := by
  obtain ⟨_, _, rfl, _⟩ := h; rfl
def sp_bounds (_ : PySem.W.Frag) (_ : Cs) : Sp := fun vs H Q _ => ∃ (a : Addr) (ns : List Int) (pr : Int), vs = [.ref a, .int pr] ∧ H a = some (.lst (ns.map V.int)) ∧ ns.length ≤ 1000 ∧
  ∀ (T l u : Addr) (H' : Hp), Same H H' → H' T = some (.tup [.ref l, .ref u]) → H' l = some (.lst ((outsTo ns pr ns.length).map V.int)) → H' u = some (.lst ((insTo ns pr ns.length).map V.int)) → Q (.ref T) H'
theorem len_bounds {K : PySem.W.Frag} {cs : Cs} {vs : List V} {H : Hp} {Q : VK} {E : XK} (h : sp_bounds K cs vs H Q E) : vs.length = 2 := by
  obtain ⟨_, _, _, rfl, _⟩ := h; rfl
def sp_stretches_of (_ : PySem.W.Frag) (_ : Cs) : Sp := fun vs H Q _ => ∃ (lv : Addr) (ns : List Int) (ls : List L4) (m : Nat), vs = [.ref lv, .int (ns.length : Int)] ∧ H lv = some (.lst (refsL ls)) ∧ ls.length = m + 1 ∧ Levels H ns ls ∧ ns.length ≤ 1000 ∧ m ≤ 1000 ∧
  ∀ (q : Addr) (ps : List P2) (at' level : Nat) (H' : Hp), Same H H' → H' q = some (.lst (refs2 ps.reverse)) → Pairs2 H' ps → BackTo ns m at' level ps → (level = 0 ∨ at' = 0) → Q (.ref q) H'
theorem len_stretches_of {K : PySem.W.Frag} {cs : Cs} {vs : List V} {H : Hp} {Q : VK} {E : XK} (h : sp_stretches_of K cs vs H Q E) : vs.length = 2 := by
  obtain ⟨_, _, _, _, rfl, _⟩ := h; rfl
def sp_several (_ : PySem.W.Frag) (cs : Cs) : Sp := fun vs H Q _ => ∃ (a : Addr) (ns : List Int) (many : Int), vs = [.ref a, .int many] ∧ H a = some (.lst (ns.map V.int)) ∧ IsRow ns ∧ 0 ≤ many ∧ ns.length ≤ 900 ∧
  ∀ (x dx s l u : Addr) (pr : Int) (ps : List P2) (outs ins : List Int) (H' : Hp), SevShow ns many ps pr outs ins → H x = none → H s = none → H l = none → H u = none → s ≠ l → s ≠ u → l ≠ u → Same H H' → H' x = some (.ins cs.Several dx (fSeveral s pr l u)) → H' s = some (.lst (refs2 ps)) → Pairs2 H' ps → H' l = some (.lst (outs.map V.int)) → H' u = some (.lst (ins.map V.int)) → Q (.ref x) H'
theorem len_several {K : PySem.W.Frag} {cs : Cs} {vs : List V} {H : Hp} {Q : VK} {E : XK} (h : sp_several K cs vs H Q E) : vs.length = 2 := by
  obtain ⟨_, _, _, rfl, _⟩ := h; rfl
theorem min_if (i j : Int) : (if j < i then j else i) = min i j := by split <;> omega
theorem tab0 (ns : List Int) {n : Nat} (h : n = ns.length + 1) : (List.range n).map (fun _ => V.int 0) = (tabF ns (sevF ns 0)).map V.int := by
  subst h
  unfold tabF
  rw [List.map_map]
  rfl
def sp_law_k06 (K : PySem.W.Frag) (_ : Cs) : Sp := spLaw K
theorem len_law_k06 {K : PySem.W.Frag} {cs : Cs} {vs : List V} {H : Hp} {Q : VK} {E : XK} (h : sp_law_k06 K cs vs H Q E) : vs.length = 1 := by
  obtain ⟨_, _, rfl, _⟩ := h; rfl
theorem nth_mem_or {L : List Int} {P : Int → Prop} (h : ∀ z ∈ L, P z) {i : Nat} (hi : i < L.length) : P (nth L i) := h _ (nth_mem hi)
end Bs
namespace Bs
open PySem L2
abbrev N_Several_bounds : List Str := ["self", "row", "at", "one"]
def t_Several_bounds (K : PySem.W.Frag) (cs : Cs) : TS :=
  (tSeq (tIfS (tTest (tOp rLtI (tOp (rIxL K) (tFld K (tVar 0) "outs") (tC (.int 0))) (tC (.int 0)))) (tRet (tC (.bl false))) tNext)
  (tSeq (tFor (iEnum K (tCons (tVar 1) tNil)) (gTup K 2 (gCons (gName 2) (gCons (gName 3) gNil))) (tSeq (tIfS (tOr (tTest (tOp rLtI (tOp (rIxL K) (tFld K (tVar 0) "ins") (tVar 2)) (tOp rAddI (tOp rSubI (tOp (rIxL K) (tFld K (tVar 0) "outs") (tVar 2)) (tFld K (tVar 0) "price")) (tVar 3)))) (tAnd (tTest (tOp rGtI (tVar 2) (tC (.int 0)))) (tTest (tOp rLtI (tOp (rIxL K) (tFld K (tVar 0) "ins") (tVar 2)) (tOp rAddI (tOp (rIxL K) (tFld K (tVar 0) "ins") (tOp rSubI (tVar 2) (tC (.int 1)))) (tVar 3)))))) (tRet (tC (.bl false))) tNext)
  (tIfS (tTest (tOp rLtI (tOp (rIxL K) (tFld K (tVar 0) "outs") (tOp rAddI (tVar 2) (tC (.int 1)))) (tCB cMax2 (tCons (tOp (rIxL K) (tFld K (tVar 0) "outs") (tVar 2)) (tCons (tOp (rIxL K) (tFld K (tVar 0) "ins") (tVar 2)) tNil))))) (tRet (tC (.bl false))) tNext)))
  (tRet (tC (.bl true)))))
abbrev N_is_there : List Str := ["first", "many", "length"]
def t_is_there (K : PySem.W.Frag) (cs : Cs) : TS :=
  (tRet (tAndV (tOp rGeI (tVar 0) (tC (.int 0))) (tAndV (tOp rGeI (tVar 1) (tC (.int 1))) (tOp rLeI (tOp rAddI (tVar 0) (tVar 1)) (tVar 2)))))
abbrev N_Several_shows : List Str := ["self", "row", "many", "at", "told", "first", "count"]
def t_Several_shows (K : PySem.W.Frag) (cs : Cs) : TS :=
  (tSeq (tIfS (tOr (tTest (tOp rGtI (tCB (cLen K) (tCons (tFld K (tVar 0) "stretches") tNil)) (tVar 2))) (tOr (tTest (tOp rLtI (tFld K (tVar 0) "price") (tC (.int 0)))) (tOr (tTest (tOp rNe (tCB (cLen K) (tCons (tFld K (tVar 0) "outs") tNil)) (tOp rAddI (tCB (cLen K) (tCons (tVar 1) tNil)) (tC (.int 1))))) (tTest (tOp rNe (tCB (cLen K) (tCons (tFld K (tVar 0) "ins") tNil)) (tCB (cLen K) (tCons (tVar 1) tNil))))))) (tRet (tC (.bl false))) tNext)
  (tSeq (tAsg (tC (.int 0)) (gName 3))
  (tSeq (tAsg (tC (.int 0)) (gName 4))
  (tSeq (tFor (iList K (tFld K (tVar 0) "stretches")) (gTup K 2 (gCons (gName 5) (gCons (gName 6) gNil))) (tSeq (tIfS (tOr (tTest (tOp rLtI (tVar 5) (tVar 3))) (tNot (tB (tCall (sp_is_there K cs) [] E0 (tCons (tVar 5) (tCons (tVar 6) (tCons (tCB (cLen K) (tCons (tVar 1) tNil)) tNil))))))) (tRet (tC (.bl false))) tNext)
  (tSeq (tAsg (tOp rAddI (tVar 4) (tCB (rSum K) (tCons (tSl (rSlL K) (tVar 1) (tPart (tVar 5)) (tPart (tOp rAddI (tVar 5) (tVar 6)))) tNil))) (gName 4))
  (tAsg (tOp rAddI (tVar 5) (tVar 6)) (gName 3)))))
  (tRet (tAndV (tMeth cs.Several "bounds" (sp_Several_bounds K cs) [] E0 (tVar 0) (tCons (tVar 1) tNil)) (tOp rLeI (tOp rAddI (tOp (rIxL K) (tFld K (tVar 0) "outs") (tUn rNegI (tC (.int 1)))) (tOp rMulI (tFld K (tVar 0) "price") (tVar 2))) (tVar 4))))))))
abbrev N_l_bounds : List Str := ["_law_row_here", "_law_price", "_law_outs", "_law_ins", "_law_at"]
def t_l_bounds (K : PySem.W.Frag) (cs : Cs) : TS :=
  (tSeq (tIfS (tOr (tTest (tOp rNe (tCB (cLen K) (tCons (tVar 2) tNil)) (tOp rAddI (tCB (cLen K) (tCons (tVar 0) tNil)) (tC (.int 1))))) (tOr (tTest (tOp rNe (tCB (cLen K) (tCons (tVar 3) tNil)) (tCB (cLen K) (tCons (tVar 0) tNil)))) (tTest (tOp rLtI (tOp (rIxL K) (tVar 2) (tC (.int 0))) (tC (.int 0)))))) (tRet (tC (.bl false))) tNext)
  (tSeq (tFor (iRng1 (tCons (tCB (cLen K) (tCons (tVar 0) tNil)) tNil)) (gName 4) (tSeq (tIfS (tOr (tTest (tOp rLtI (tOp (rIxL K) (tVar 3) (tVar 4)) (tOp rAddI (tOp rSubI (tOp (rIxL K) (tVar 2) (tVar 4)) (tVar 1)) (tOp (rIxL K) (tVar 0) (tVar 4))))) (tOr (tTest (tOp rLtI (tOp (rIxL K) (tVar 2) (tOp rAddI (tVar 4) (tC (.int 1)))) (tOp (rIxL K) (tVar 2) (tVar 4)))) (tTest (tOp rLtI (tOp (rIxL K) (tVar 2) (tOp rAddI (tVar 4) (tC (.int 1)))) (tOp (rIxL K) (tVar 3) (tVar 4)))))) (tRet (tC (.bl false))) tNext)
  (tIfS (tAnd (tTest (tOp rGtI (tVar 4) (tC (.int 0)))) (tTest (tOp rLtI (tOp (rIxL K) (tVar 3) (tVar 4)) (tOp rAddI (tOp (rIxL K) (tVar 3) (tOp rSubI (tVar 4) (tC (.int 1)))) (tOp (rIxL K) (tVar 0) (tVar 4)))))) (tRet (tC (.bl false))) tNext)))
  (tRet (tC (.bl true)))))
abbrev N_l_numbers : List Str := ["_law_found", "_law_one"]
def t_l_numbers (K : PySem.W.Frag) (cs : Cs) : TS :=
  (tSeq (tIfS (tNot (tB (tCB (rIsi K) (tCons (tVar 0) (tCons (tC (.ty "list")) tNil))))) (tRet (tC (.bl false))) tNext)
  (tRet (tCB (rAll K) (tCons (tLc (iList K (tVar 0)) (gName 1) tYes (tAndV (tCB (rIsi K) (tCons (tVar 1) (tCons (tC (.ty "int")) tNil))) (tNotV (tCB (rIsi K) (tCons (tVar 1) (tCons (tC (.ty "bool")) tNil))))) [1]) tNil))))
abbrev N_l_right_k06 : List Str := ["_law_row_here", "_law_many", "_law_found", "_law_place", "_law_told", "_law_pair", "_law_first", "_law_count"]
def t_l_right_k06 (K : PySem.W.Frag) (cs : Cs) : TS :=
  (tSeq (tIfS (tOr (tNot (tB (tCB (rIsi K) (tCons (tVar 2) (tCons (tC (.ref cs.Answer)) tNil))))) (tOr (tNot (tB (tCB (rIsi K) (tCons (tVar 2) (tCons (tC (.ref cs.Several)) tNil))))) (tB (tCB (rIsi K) (tCons (tVar 2) (tCons (tC (.ref cs.Best)) tNil)))))) (tRet (tC (.bl false))) tNext)
  (tSeq (tIfS (tOr (tB (tCB (rIsi K) (tCons (tVar 2) (tCons (tC (.ref cs.Steep)) tNil)))) (tOr (tNot (tB (tCB (rIsi K) (tCons (tFld K (tVar 2) "stretches") (tCons (tC (.ty "list")) tNil))))) (tTest (tOp rGtI (tCB (cLen K) (tCons (tFld K (tVar 2) "stretches") tNil)) (tVar 1))))) (tRet (tC (.bl false))) tNext)
  (tSeq (tIfS (tOr (tNot (tB (tCall (sp_l_numbers K cs) [] E0 (tCons (tLst (tCons (tFld K (tVar 2) "price") tNil)) tNil)))) (tOr (tNot (tB (tCall (sp_l_numbers K cs) [] E0 (tCons (tFld K (tVar 2) "outs") tNil)))) (tNot (tB (tCall (sp_l_numbers K cs) [] E0 (tCons (tFld K (tVar 2) "ins") tNil)))))) (tRet (tC (.bl false))) tNext)
  (tSeq (tAsg (tC (.int 0)) (gName 3))
  (tSeq (tAsg (tC (.int 0)) (gName 4))
  (tSeq (tFor (iList K (tFld K (tVar 2) "stretches")) (gName 5) (tSeq (tIfS (tOr (tNot (tB (tCB (rIsi K) (tCons (tVar 5) (tCons (tC (.ty "tuple")) tNil))))) (tOr (tTest (tOp rNe (tCB (cLen K) (tCons (tVar 5) tNil)) (tC (.int 2)))) (tNot (tB (tCall (sp_l_numbers K cs) [] E0 (tCons (tCB (cList K) (tCons (tVar 5) tNil)) tNil)))))) (tRet (tC (.bl false))) tNext)
  (tSeq (tAsg (tVar 5) (gTup K 2 (gCons (gName 6) (gCons (gName 7) gNil))))
  (tSeq (tIfS (tOr (tTest (tOp rLtI (tVar 6) (tVar 3))) (tOr (tTest (tOp rLtI (tVar 7) (tC (.int 1)))) (tTest (tOp rGtI (tOp rAddI (tVar 6) (tVar 7)) (tCB (cLen K) (tCons (tVar 0) tNil)))))) (tRet (tC (.bl false))) tNext)
  (tSeq (tAsg (tOp rAddI (tVar 6) (tVar 7)) (gName 3))
  (tAsg (tOp rAddI (tVar 4) (tCB (rSum K) (tCons (tSl (rSlL K) (tVar 0) (tPart (tVar 6)) (tPart (tVar 3))) tNil))) (gName 4)))))))
  (tSeq (tIfS (tOr (tTest (tOp rLtI (tFld K (tVar 2) "price") (tC (.int 0)))) (tNot (tB (tCall (sp_l_bounds K cs) [] E0 (tCons (tVar 0) (tCons (tFld K (tVar 2) "price") (tCons (tFld K (tVar 2) "outs") (tCons (tFld K (tVar 2) "ins") tNil)))))))) (tRet (tC (.bl false))) tNext)
  (tRet (tOp rLeI (tOp rAddI (tOp (rIxL K) (tFld K (tVar 2) "outs") (tUn rNegI (tC (.int 1)))) (tOp rMulI (tFld K (tVar 2) "price") (tVar 1))) (tVar 4))))))))))
abbrev N_l_row : List Str := ["_law_script", "_law_most", "_law_cell"]
def t_l_row (K : PySem.W.Frag) (cs : Cs) : TS :=
  (tSeq (tAsg (tOp (rIxT K) (tTup (tCons (tC (.int 3)) (tCons (tC (.int 10)) (tCons (tC (.int 10)) (tCons (tC (.int 1000000)) tNil))))) (tOp rModI (tCB (rSum K) (tCons (tVar 0) tNil)) (tC (.int 4)))) (gName 1))
  (tRet (tLc (iList K (tVar 0)) (gName 2) tYes (tOp rSubI (tOp rModI (tVar 2) (tOp rAddI (tOp rMulI (tC (.int 2)) (tVar 1)) (tC (.int 1)))) (tVar 1)) [2])))
abbrev N_Several_init : List Str := ["self", "stretches", "price", "outs", "ins"]
def t_Several_init (K : PySem.W.Frag) (cs : Cs) : TS :=
  (tSeq (sFld K (tVar 0) (tCB (cList K) (tCons (tVar 1) tNil)) "stretches")
  (tSeq (sFld K (tVar 0) (tVar 2) "price")
  (tSeq (sFld K (tVar 0) (tCB (cList K) (tCons (tVar 3) tNil)) "outs")
  (sFld K (tVar 0) (tCB (cList K) (tCons (tVar 4) tNil)) "ins"))))
abbrev N_added : List Str := ["row", "best", "found", "begins", "running", "begin", "at", "one"]
def t_added (K : PySem.W.Frag) (cs : Cs) : TS :=
  (tSeq (tAsg (tLst (tCons (tOp (rIxL K) (tVar 1) (tC (.int 0))) tNil)) (gName 2))
  (tSeq (tAsg (tLst (tCons (tUn rNegI (tC (.int 1))) tNil)) (gName 3))
  (tSeq (tAsg (tOp (rIxL K) (tVar 1) (tC (.int 0))) (gName 4))
  (tSeq (tAsg (tC (.int 0)) (gName 5))
  (tSeq (tFor (iEnum K (tCons (tVar 0) tNil)) (gTup K 2 (gCons (gName 6) (gCons (gName 7) gNil))) (tSeq (tIfS (tOr (tTest (tOp rEq (tVar 6) (tC (.int 0)))) (tTest (tOp rGtI (tOp (rIxL K) (tVar 1) (tVar 6)) (tVar 4)))) (tSeq (tAsg (tOp (rIxL K) (tVar 1) (tVar 6)) (gName 4))
  (tAsg (tVar 6) (gName 5))) tNext)
  (tSeq (tAsg (tOp rAddI (tVar 4) (tVar 7)) (gName 4))
  (tIfS (tTest (tOp rGtI (tVar 4) (tOp (rIxL K) (tVar 2) (tUn rNegI (tC (.int 1)))))) (tSeq (tDrop (tBM K "list" rAppend (tVar 2) (tCons (tVar 4) tNil)))
  (tDrop (tBM K "list" rAppend (tVar 3) (tCons (tVar 5) tNil)))) (tSeq (tDrop (tBM K "list" rAppend (tVar 2) (tCons (tOp (rIxL K) (tVar 2) (tUn rNegI (tC (.int 1)))) tNil)))
  (tDrop (tBM K "list" rAppend (tVar 3) (tCons (tUn rNegI (tC (.int 1))) tNil))))))))
  (tRet (tTup (tCons (tVar 2) (tCons (tVar 3) tNil)))))))))
abbrev N_is_number : List Str := ["thing"]
def t_is_number (K : PySem.W.Frag) (cs : Cs) : TS :=
  (tRet (tAndV (tCB (rIsi K) (tCons (tVar 0) (tCons (tC (.ty "int")) tNil))) (tNotV (tCB (rIsi K) (tCons (tVar 0) (tCons (tC (.ty "bool")) tNil))))))
abbrev N_asked_many : List Str := ["many"]
def t_asked_many (K : PySem.W.Frag) (cs : Cs) : TS :=
  (tIfS (tOr (tNot (tB (tCall (sp_is_number K cs) [] E0 (tCons (tVar 0) tNil)))) (tTest (tOp rLtI (tVar 0) (tC (.int 0))))) tNever tNext)
abbrev N_asked_row : List Str := ["row", "one"]
def t_asked_row (K : PySem.W.Frag) (cs : Cs) : TS :=
  (tIfS (tOr (tNot (tB (tCB (rIsi K) (tCons (tVar 0) (tCons (tC (.ty "list")) tNil))))) (tNot (tB (tCB (rAll K) (tCons (tLc (iList K (tVar 0)) (gName 1) tYes (tAndV (tCall (sp_is_number K cs) [] E0 (tCons (tVar 1) tNil)) (tChain rLeI rLeI (tUn rNegI (tC (.int 1000000))) (tVar 1) (tC (.int 1000000)))) [1]) tNil))))) tNever tNext)
abbrev N_bounds : List Str := ["row", "price", "outs", "ins", "one"]
def t_bounds (K : PySem.W.Frag) (cs : Cs) : TS :=
  (tSeq (tAsg (tLst (tCons (tC (.int 0)) tNil)) (gName 2))
  (tSeq (tAsg (tLst tNil) (gName 3))
  (tSeq (tFor (iList K (tVar 0)) (gName 4) (tSeq (tDrop (tBM K "list" rAppend (tVar 3) (tCons (tOp rAddI (tOp rSubI (tOp (rIxL K) (tVar 2) (tUn rNegI (tC (.int 1)))) (tVar 1)) (tVar 4)) tNil)))
  (tSeq (tIfS (tTest (tOp rGtI (tCB (cLen K) (tCons (tVar 3) tNil)) (tC (.int 1)))) (tAsg (tCB cMax2 (tCons (tOp (rIxL K) (tVar 3) (tUn rNegI (tC (.int 1)))) (tCons (tOp rAddI (tOp (rIxL K) (tVar 3) (tUn rNegI (tC (.int 2)))) (tVar 4)) tNil))) (gSub (tVar 3) (tUn rNegI (tC (.int 1))) rSetL)) tNext)
  (tDrop (tBM K "list" rAppend (tVar 2) (tCons (tCB cMax2 (tCons (tOp (rIxL K) (tVar 2) (tUn rNegI (tC (.int 1)))) (tCons (tOp (rIxL K) (tVar 3) (tUn rNegI (tC (.int 1)))) tNil))) tNil))))))
  (tRet (tTup (tCons (tVar 2) (tCons (tVar 3) tNil)))))))
abbrev N_stretches_of : List Str := ["levels", "length", "found", "at", "level", "best", "begins"]
def t_stretches_of (K : PySem.W.Frag) (cs : Cs) : TS :=
  (tSeq (tAsg (tLst tNil) (gName 2))
  (tSeq (tAsg (tVar 1) (gName 3))
  (tSeq (tAsg (tOp rSubI (tCB (cLen K) (tCons (tVar 0) tNil)) (tC (.int 1))) (gName 4))
  (tSeq (tWhile (tAnd (tTest (tOp rGtI (tVar 4) (tC (.int 0)))) (tTest (tOp rGtI (tVar 3) (tC (.int 0))))) (tSeq (tAsg (tOp (rIxL K) (tVar 0) (tVar 4)) (gTup K 2 (gCons (gName 5) (gCons (gName 6) gNil))))
  (tIfS (tTest (tOp rGeI (tOp (rIxL K) (tVar 6) (tVar 3)) (tC (.int 0)))) (tSeq (tDrop (tBM K "list" rAppend (tVar 2) (tCons (tTup (tCons (tOp (rIxL K) (tVar 6) (tVar 3)) (tCons (tOp rSubI (tVar 3) (tOp (rIxL K) (tVar 6) (tVar 3))) tNil))) tNil)))
  (tSeq (tAsg (tOp (rIxL K) (tVar 6) (tVar 3)) (gName 3))
  (tAsg (tOp rSubI (tVar 4) (tC (.int 1))) (gName 4)))) (tAsg (tOp rSubI (tVar 3) (tC (.int 1))) (gName 3)))))
  (tRet (tRevL K (tVar 2)))))))
abbrev N_several : List Str := ["row", "many", "levels", "count", "price", "outs", "ins", "at"]
def t_several (K : PySem.W.Frag) (cs : Cs) : TS :=
  (tSeq (tDrop (tCall (sp_asked_row K cs) [] E0 (tCons (tVar 0) tNil)))
  (tSeq (tDrop (tCall (sp_asked_many K cs) [] E0 (tCons (tVar 1) tNil)))
  (tSeq (tAsg (tLst (tCons (tTup (tCons (tLc (iRng1 (tCons (tOp rAddI (tCB (cLen K) (tCons (tVar 0) tNil)) (tC (.int 1))) tNil)) (gName 7) tYes (tC (.int 0)) [7]) (tCons (tLst tNil) tNil))) tNil)) (gName 2))
  (tSeq (tFor (iRng1 (tCons (tOp rAddI (tCB cMin2 (tCons (tVar 1) (tCons (tCB (cLen K) (tCons (tVar 0) tNil)) tNil))) (tC (.int 1))) tNil)) (gName 3) (tDrop (tBM K "list" rAppend (tVar 2) (tCons (tCall (sp_added K cs) [] E0 (tCons (tVar 0) (tCons (tOp (rIxT K) (tOp (rIxL K) (tVar 2) (tUn rNegI (tC (.int 1)))) (tC (.int 0))) tNil))) tNil))))
  (tSeq (tAsg (tOp rSubI (tOp (rIxL K) (tOp (rIxT K) (tOp (rIxL K) (tVar 2) (tUn rNegI (tC (.int 1)))) (tC (.int 0))) (tUn rNegI (tC (.int 1)))) (tOp (rIxL K) (tOp (rIxT K) (tOp (rIxL K) (tVar 2) (tUn rNegI (tC (.int 2)))) (tC (.int 0))) (tUn rNegI (tC (.int 1))))) (gName 4))
  (tSeq (tAsg (tCall (sp_bounds K cs) [] E0 (tCons (tVar 0) (tCons (tVar 4) tNil))) (gTup K 2 (gCons (gName 5) (gCons (gName 6) gNil))))
  (tRet (tMake cs.Several (sp_Several_init K cs) [] E0 (tCons (tCall (sp_stretches_of K cs) [] E0 (tCons (tSl (rSlL K) (tVar 2) tNoPart (tPart (tUn rNegI (tC (.int 1))))) (tCons (tCB (cLen K) (tCons (tVar 0) tNil)) tNil))) (tCons (tVar 4) (tCons (tVar 5) (tCons (tVar 6) tNil))))))))))))
abbrev N_law_k06 : List Str := ["_law_script", "_law_row_here", "_law_handed", "_law_mixed", "_law_counts", "_law_many", "_law_found", "_law_back", "_law_told", "_law_due", "_law_first", "_law_count"]
def t_law_k06 (K : PySem.W.Frag) (cs : Cs) : TS :=
  (tSeq (tAsg (tCall (sp_l_row K cs) [] E0 (tCons (tVar 0) tNil)) (gName 1))
  (tSeq (tAsg (tCB (cList K) (tCons (tVar 1) tNil)) (gName 2))
  (tSeq (tAsg (tCB (rSum K) (tCons (tVar 0) tNil)) (gName 3))
  (tSeq (tAsg (tLst (tCons (tC (.int 0)) (tCons (tC (.int 1)) (tCons (tOp rModI (tOp rDivI (tVar 3) (tC (.int 4))) (tC (.int 5))) (tCons (tOp rAddI (tC (.int 2)) (tOp rModI (tOp rDivI (tVar 3) (tC (.int 20))) (tOp rAddI (tOp rDivI (tCB (cLen K) (tCons (tVar 1) tNil)) (tC (.int 4))) (tC (.int 1))))) (tCons (tC (.int 1)) tNil)))))) (gName 4))
  (tSeq (tIfS (tTest (tOp rLtI (tCB (cLen K) (tCons (tVar 1) tNil)) (tC (.int 16)))) (tDrop (tBM K "list" rAppend (tVar 4) (tCons (tOp rAddI (tCB (cLen K) (tCons (tVar 1) tNil)) (tC (.int 3))) tNil))) tNext)
  (tSeq (tFor (iList K (tVar 4)) (gName 5) (tSeq (tAsg (tCall (sp_several K cs) [] E0 (tCons (tVar 2) (tCons (tVar 5) tNil))) (gName 6))
  (tSeq (tIfS (tOr (tNot (tB (tCall (sp_l_right_k06 K cs) [] E0 (tCons (tVar 1) (tCons (tVar 5) (tCons (tVar 6) tNil)))))) (tOr (tTest (tOp rNotB (tMeth cs.Several "shows" (sp_Several_shows K cs) [] E0 (tVar 6) (tCons (tVar 1) (tCons (tVar 5) tNil))) (tC (.bl true)))) (tTest (tOp (rNeD K) (tVar 2) (tVar 1))))) (tRet (tC (.bl false))) tNext)
  (tSeq (tAsg (tRevL K (tVar 1)) (gName 7))
  (tSeq (tAsg (tCB (rSum K) (tCons (tLc (iList K (tFld K (tVar 6) "stretches")) (gTup K 2 (gCons (gName 10) (gCons (gName 11) gNil))) tYes (tCB (rSum K) (tCons (tSl (rSlL K) (tVar 7) (tPart (tVar 10)) (tPart (tOp rAddI (tVar 10) (tVar 11)))) tNil)) [10, 11]) tNil)) (gName 8))
  (tSeq (tAsg (tCall (sp_l_bounds K cs) [] E0 (tCons (tVar 7) (tCons (tFld K (tVar 6) "price") (tCons (tFld K (tVar 6) "outs") (tCons (tFld K (tVar 6) "ins") tNil))))) (gName 9))
  (tSeq (tIfS (tTest (tOp rNe (tMeth cs.Several "shows" (sp_Several_shows K cs) [] E0 (tVar 6) (tCons (tVar 7) (tCons (tVar 5) tNil))) (tAndV (tVar 9) (tOp rLeI (tOp rAddI (tOp (rIxL K) (tFld K (tVar 6) "outs") (tUn rNegI (tC (.int 1)))) (tOp rMulI (tFld K (tVar 6) "price") (tVar 5))) (tVar 8))))) (tRet (tC (.bl false))) tNext)
  (tSeq (tDrop (tBM K "list" rAppend (tFld K (tVar 6) "ins") (tCons (tC (.int 0)) tNil)))
  (tIfS (tTest (tOp rNotB (tMeth cs.Several "shows" (sp_Several_shows K cs) [] E0 (tVar 6) (tCons (tVar 1) (tCons (tVar 5) tNil))) (tC (.bl false)))) (tRet (tC (.bl false))) tNext)))))))))
  (tRet (tOp (rEqD K) (tFld K (tCall (sp_several K cs) [] E0 (tCons (tLst tNil) (tCons (tC (.int 2)) tNil))) "stretches") (tLst tNil)))))))))
end Bs
local macro_rules | `(tactic| walk_at "nn") => `(tactic| first
  | assumption
  | (with_reducible apply Bs.free_of'; (· assumption); (· walk_at "same")))
local macro_rules | `(tactic| walk_at "same") => `(tactic| first
  | assumption
  | exact L2.Same.refl _
  | (with_reducible apply Bs.same_new'; (· assumption); (· walk_at "same"))
  | (with_reducible apply Bs.same_mut'; (· walk_at "nn"); (· walk_at "same"))
  | (with_reducible apply Bs.same_r; (· assumption); (· walk_at "same")))
local macro_rules | `(tactic| walk_at "at") => `(tactic| first
  | assumption
  | with_reducible exact L2.upd_same
  | (with_reducible apply Bs.at_new'; (· assumption); (· walk_at "at"))
  | (with_reducible apply Bs.at_mut; (· walk_at "ne"); (· walk_at "at"))
  | (with_reducible apply Bs.at_same; (· assumption); (· walk_at "at")))
local macro_rules | `(tactic| walk_at "ne") => `(tactic| first
  | assumption
  | (apply Ne.symm; assumption)
  | (with_reducible apply Bs.ne_old; (· assumption); (· walk_at "at"))
  | (apply Ne.symm; (with_reducible apply Bs.ne_old; (· assumption); (· walk_at "at"))))
local macro_rules | `(tactic| walk_at "sq") => `(tactic| first
  | assumption
  | (with_reducible apply L2.SqL.of; walk_at "at")
  | (with_reducible apply Bs.sq_same; (· assumption); (· walk_at "same")))
local macro_rules | `(tactic| walk_at "tq") => `(tactic| first
  | assumption
  | (with_reducible apply L2.SqT.of; walk_at "at")
  | (with_reducible apply Bs.sqt_same; (· assumption); (· walk_at "same")))
local macro_rules | `(tactic| walk_at "rd") => `(tactic| first
  | assumption
  | (with_reducible apply L2.Rd.of; walk_at "at")
  | (apply Bs.rd_frz; assumption))
local macro_rules | `(tactic| walk_at "om") => `(tactic| first
  | assumption
  | omega
  | (simp only [List.length_map, List.length_append, List.length_cons, List.length_nil, List.length_reverse, List.length_range, Bs.psums_length, Bs.psumsTo_length, Bs.lrow_length] at *; omega))
local macro_rules | `(tactic| walk_at "cl") => `(tactic| first
  | assumption
  | exact Bs.OkBest.cl (by assumption)
  | exact Bs.OkSteep.cl (by assumption)
  | exact Bs.OkAround.cl (by assumption)
  | exact Bs.OkExact.cl (by assumption)
  | exact Bs.OkNever.cl (by assumption)
  | exact Bs.OkSeveral.cl (by assumption))
local macro_rules | `(tactic| walk_at "na") => `(tactic| first
  | assumption
  | exact Bs.OkBest.first (by assumption)
  | exact Bs.OkBest.many (by assumption)
  | exact Bs.OkBest.lows (by assumption)
  | exact Bs.OkSteep.first (by assumption)
  | exact Bs.OkSteep.many (by assumption)
  | exact Bs.OkSteep.lows (by assumption)
  | exact Bs.OkAround.first (by assumption)
  | exact Bs.OkAround.many (by assumption)
  | exact Bs.OkAround.lows (by assumption)
  | exact Bs.OkAround.tops (by assumption)
  | exact Bs.OkExact.first (by assumption)
  | exact Bs.OkExact.many (by assumption)
  | exact Bs.OkNever.table (by assumption)
  | exact Bs.OkSeveral.stretches (by assumption)
  | exact Bs.OkSeveral.price (by assumption)
  | exact Bs.OkSeveral.outs (by assumption)
  | exact Bs.OkSeveral.ins (by assumption))
local macro_rules | `(tactic| walk_at "lk") => `(tactic| first
  | with_reducible exact Bs.lk_Best_first
  | with_reducible exact Bs.lk_Best_many
  | with_reducible exact Bs.lk_Best_lows
  | with_reducible exact Bs.lk_Steep_first
  | with_reducible exact Bs.lk_Steep_many
  | with_reducible exact Bs.lk_Steep_lows
  | with_reducible exact Bs.lk_Around_first
  | with_reducible exact Bs.lk_Around_many
  | with_reducible exact Bs.lk_Around_lows
  | with_reducible exact Bs.lk_Around_tops
  | with_reducible exact Bs.lk_Exact_first
  | with_reducible exact Bs.lk_Exact_many
  | with_reducible exact Bs.lk_Never_table
  | with_reducible exact Bs.lk_Several_stretches
  | with_reducible exact Bs.lk_Several_price
  | with_reducible exact Bs.lk_Several_outs
  | with_reducible exact Bs.lk_Several_ins)
local macro_rules | `(tactic| walk_at "no") => `(tactic| first
  | with_reducible exact Bs.no_Best_shows
  | with_reducible exact Bs.no_Steep_shows
  | with_reducible exact Bs.no_Around_shows
  | with_reducible exact Bs.no_Exact_shows
  | with_reducible exact Bs.no_Never_shows
  | with_reducible exact Bs.no_Several_shows
  | with_reducible exact Bs.no_Several_bounds)
local macro_rules | `(tactic| walk_at "hc") => `(tactic| simp only [decide_eq_true_eq, decide_eq_false_iff_not, Bool.not_eq_true', Bool.not_eq_false', Bool.and_eq_true, Bool.or_eq_true, Bool.or_eq_false_iff, Bool.and_eq_false_iff, Bool.not_true, Bool.not_false, Int.not_lt, Int.not_le] at *)
local macro_rules | `(tactic| walk_at "stp") => `(tactic| first
  | (with_reducible apply Bs.wp_var; (· with_unfolding_all rfl))
  | with_reducible refine Bs.wp_c ?_
  | with_reducible refine Bs.wp_op ?_
  | with_reducible refine Bs.wp_cons ?_
  | with_reducible refine Bs.wp_nil ?_
  | with_reducible refine Bs.wp_seq ?_
  | with_reducible refine Bs.wp_asgN ?_
  | (with_reducible apply Bs.wp_kSet; (· (simp only [List.set_cons_succ, List.set_cons_zero]; exact rfl)))
  | with_reducible refine Bs.wp_nx ?_
  | with_reducible refine Bs.wp_next ?_
  | with_reducible refine Bs.wp_ret ?_
  | with_reducible refine Bs.wp_rt ?_
  | with_reducible refine Bs.wp_drop ?_
  | with_reducible refine Bs.wp_kDrop ?_
  | with_reducible refine Bs.wp_addI ?_
  | with_reducible refine Bs.wp_subI ?_
  | with_reducible refine Bs.wp_un ?_
  | with_reducible refine Bs.wp_negI ?_
  | with_reducible refine Bs.wp_ltI ?_
  | with_reducible refine Bs.wp_leI ?_
  | with_reducible refine Bs.wp_gtI ?_
  | with_reducible refine Bs.wp_geI ?_
  | with_reducible refine Bs.wp_eqI ?_
  | with_reducible refine Bs.wp_neI ?_
  | with_reducible refine Bs.wp_eqB ?_
  | with_reducible refine Bs.wp_neB ?_
  | with_reducible refine Bs.wp_isB ?_
  | with_reducible refine Bs.wp_ntB ?_
  | with_reducible refine Bs.wp_test ?_
  | with_reducible refine Bs.wp_tB ?_
  | with_reducible refine Bs.wp_kB ?_
  | with_reducible refine Bs.wp_not ?_
  | with_reducible refine Bs.kNot_t ?_
  | with_reducible refine Bs.kNot_f ?_
  | with_reducible refine Bs.wp_kNot ?_
  | with_reducible refine Bs.wp_and ?_
  | with_reducible refine Bs.wp_or ?_
  | with_reducible refine Bs.wp_andV ?_
  | with_reducible refine Bs.wp_orV ?_
  | with_reducible refine Bs.wp_notV ?_
  | with_reducible refine Bs.kNotV_t ?_
  | with_reducible refine Bs.kNotV_f ?_
  | with_reducible refine Bs.wp_kNotV ?_
  | with_reducible refine Bs.kOr_f ?_
  | with_reducible refine Bs.kOr_nt ?_
  | with_reducible refine Bs.kOr_t ?_
  | with_reducible refine Bs.kOr_nf ?_
  | with_reducible refine Bs.kAnd_t ?_
  | with_reducible refine Bs.kAnd_nf ?_
  | with_reducible refine Bs.kAnd_f ?_
  | with_reducible refine Bs.kAnd_nt ?_
  | with_reducible refine Bs.kOrV_f ?_
  | with_reducible refine Bs.kOrV_nt ?_
  | with_reducible refine Bs.kAndV_t ?_
  | with_reducible refine Bs.kAndV_nf ?_
  | with_reducible refine Bs.kAndV_f ?_
  | with_reducible refine Bs.kIfS_t ?_
  | with_reducible refine Bs.kIfS_nf ?_
  | with_reducible refine Bs.kIfS_f ?_
  | with_reducible refine Bs.kIfS_nt ?_
  | with_reducible refine Bs.wp_chain ?_
  | with_reducible refine Bs.wp_ifE ?_
  | with_reducible refine Bs.wp_ifS ?_
  | with_reducible refine Bs.wp_asg ?_
  | with_reducible refine Bs.wp_kAsg ?_
  | (with_reducible apply Bs.wp_modI; (· walk_at "om"))
  | (with_reducible apply Bs.wp_divI; (· walk_at "om"))
  | with_reducible refine Bs.wp_call ?_
  | with_reducible refine Bs.wp_kCall ?_
  | with_reducible refine Bs.wp_tCB ?_
  | with_reducible refine Bs.wp_kCB ?_
  | (with_reducible apply Bs.wp_lenI; (· walk_at "sq"))
  | (with_reducible apply Bs.wp_len; (· walk_at "sq"))
  | (with_reducible apply Bs.wp_lenT; (· walk_at "tq"))
  | (with_reducible apply Bs.wp_ixT0; (· walk_at "tq"))
  | (with_reducible apply Bs.wp_ixT1; (· walk_at "tq"))
  | (with_reducible apply Bs.wp_ixT2; (· walk_at "tq"))
  | (with_reducible apply Bs.wp_sum; (· walk_at "sq"))
  | (with_reducible apply Bs.wp_ixL; (· walk_at "sq"); (· walk_at "om"); (· walk_at "om"))
  | (with_reducible apply Bs.wp_ixN; (· walk_at "sq"); (· walk_at "om"); (· walk_at "om"))
  | (with_reducible apply Bs.wp_appI; (· walk_at "at"); (· walk_at "om"))
  | (with_reducible apply Bs.wp_app; (· walk_at "at"); (· walk_at "om"))
  | with_reducible refine Bs.wp_tBM ?_
  | (with_reducible apply Bs.wp_kBM; (· walk_at "at"))
  | with_reducible refine Bs.wp_tBM0 ?_
  | (with_reducible apply Bs.wp_kBM0; (· walk_at "at"))
  | with_reducible refine Bs.wp_lst ?_
  | with_reducible refine Bs.wp_tup ?_
  | with_reducible refine Bs.wp_sl ?_
  | with_reducible refine Bs.wp_part ?_
  | with_reducible refine Bs.wp_kPart ?_
  | with_reducible refine Bs.wp_noPart ?_
  | with_reducible refine Bs.wp_rev ?_
  | with_reducible refine Bs.wp_max2 ?_
  | with_reducible refine Bs.wp_min2 ?_
  | (with_reducible apply Bs.wp_eqL; (· walk_at "sq"); (· walk_at "sq"))
  | (with_reducible apply Bs.wp_neL; (· walk_at "sq"); (· walk_at "sq"))
  | with_reducible refine Bs.wp_for ?_
  | with_reducible refine Bs.wp_lc ?_
  | with_reducible refine Bs.wp_tYes ?_
  | with_reducible refine Bs.wp_iList ?_
  | (with_reducible apply Bs.wp_kIList; (· walk_at "sq"))
  | with_reducible refine Bs.wp_iRng1 ?_
  | (with_reducible apply Bs.wp_kRng1; (· walk_at "om"))
  | with_reducible refine Bs.wp_iRng2 ?_
  | (with_reducible apply Bs.wp_kRng2; (· walk_at "om"); (· walk_at "om"))
  | with_reducible refine Bs.wp_iRevR1 ?_
  | (with_reducible apply Bs.wp_kRev1; (· walk_at "om"))
  | with_reducible refine Bs.wp_iEnum ?_
  | (with_reducible apply Bs.wp_kEnum; (· walk_at "sq"))
  | (with_reducible apply Bs.wp_gName; (· (simp only [List.set_cons_succ, List.set_cons_zero]; exact rfl)))
  | (with_reducible apply Bs.wp_gTup; (· walk_at "tq"); (· with_unfolding_all rfl))
  | with_reducible refine Bs.wp_gCons ?_
  | with_reducible refine Bs.wp_gNil ?_
  | (with_reducible apply Bs.wp_all; (· walk_at "at"))
  | (with_reducible apply Bs.wp_any; (· walk_at "at"))
  | with_reducible refine Bs.isi_int ?_
  | with_reducible refine Bs.isi_int_bool ?_
  | with_reducible refine Bs.isi_bool ?_
  | (with_reducible apply Bs.isi_list; (· walk_at "at"))
  | (with_reducible apply Bs.isi_tup; (· walk_at "at"))
  | with_reducible refine Bs.wp_dget2 ?_
  | (with_reducible apply Bs.wp_kD2; (· walk_at "at"); (· intro Q1 hq; (repeat walk_at "stp"); exact hq); (· intro Q1 hq; (repeat walk_at "stp"); exact hq))
  | with_reducible refine Bs.wp_dput ?_
  | with_reducible refine Bs.wp_kPut ?_
  | (with_reducible apply Bs.wp_kPut2; (· walk_at "at"); (· walk_at "om"))
  | with_reducible refine Bs.wp_dnew ?_
  | with_reducible refine Bs.wp_din ?_
  | with_reducible refine Bs.wp_dnin ?_
  | (with_reducible apply Bs.wp_kIn; (· walk_at "rd"))
  | (with_reducible apply Bs.wp_kNin; (· walk_at "rd"))
  | with_reducible refine Bs.wp_dget ?_
  | (with_reducible apply Bs.wp_kGet; (· walk_at "rd"); (· assumption))
  | with_reducible refine Bs.wp_fld ?_
  | (with_reducible apply Bs.wp_kFld; (· walk_at "at"); (· walk_at "cl"); (· walk_at "na"); (· walk_at "lk"))
  | with_reducible refine Bs.wp_sfld ?_
  | with_reducible refine Bs.wp_meth ?_
  | (with_reducible apply Bs.wp_kMeth; (· walk_at "at"); (· walk_at "no"))
  | with_reducible refine Bs.wp_kCallM ?_
  | with_reducible refine Bs.wp_make ?_
  | (with_reducible apply Bs.wp_slI; (· walk_at "sq"); intro _ _)
  | (with_reducible apply Bs.wp_catI; (· walk_at "at"); (· walk_at "at"); (· walk_at "om"); intro _ _)
  | (with_reducible apply Bs.isi_own'; (· walk_at "at"); (· assumption); (· assumption))
  | with_reducible refine Bs.call_is_number ?_
  | with_reducible refine Bs.call_is_there ?_
  | with_reducible refine Bs.call_l_there ?_
  | (with_reducible apply Bs.wp_kAnd; (· intro hc Q1 hq; (try walk_at "hc"); (repeat walk_at "stp"); exact hq))
  | (with_reducible apply Bs.wp_kOr; (· intro hc Q1 hq; (try walk_at "hc"); (repeat walk_at "stp"); exact hq))
  | (with_reducible apply Bs.wp_kAndV; (· intro hc Q1 hq; (try walk_at "hc"); (repeat walk_at "stp"); exact hq))
  | (with_reducible apply Bs.wp_kOrV; (· intro hc Q1 hq; (try walk_at "hc"); (repeat walk_at "stp"); exact hq))
  | (with_reducible apply Bs.wp_kChain; (· intro hc Q1 hq; (try walk_at "hc"); (repeat walk_at "stp"); exact hq)))
local macro_rules | `(tactic| walk_at "go") => `(tactic| repeat walk_at "stp")
namespace Bs
open PySem L2
theorem pure_Several_bounds {K : PySem.W.Frag} {cs : Cs} {vs : List V} {H : Hp} {Q : VK} {E : XK} (c : OkSeveral K cs.Several) (h : sp_Several_bounds K cs vs H Q E) : t_Several_bounds K cs { nx := fun _ H' => Q .non H', rt := Q } (start N_Several_bounds vs) H := by
  obtain ⟨x, dx, s, l, u, a, pr, outs, ins, ns, rfl, hx, hl, hu, ha, ho, hi2, hz, k⟩ := h
  unfold t_Several_bounds
  show (_ : TS) _ [some (.ref x), some (.ref a), none, none] H
  walk_at "go"
  refine wp_kIfS (fun hc => ?_) (fun hc => ?_)
  · have e : decide (Bounds ns pr outs ins) = false := by
      refine decide_eq_false fun z => ?_
      have := z.1
      simp only [decide_eq_true_eq] at hc
      omega
    rw [e] at k
    walk_at "go"
    exact k _ (Same.refl _)
  · have h0 : 0 ≤ nth outs 0 := by
      simp only [decide_eq_false_iff_not] at hc
      omega
    walk_at "go"
    refine forES (ns := ns) (by walk_at "sq") (fun i σ => ∃ v2 v3, σ = [some (.ref x), some (.ref a), v2, v3] ∧ ∀ j : Nat, j < i → GoodAt ns pr outs ins j)
      ⟨_, _, rfl, fun j hj => by omega⟩ (fun i σ H' T hi h s1 nT => ?_) (fun σ H' h s1 => ?_)
    · obtain ⟨_, _, rfl, hA⟩ := h
      have hx' : H' x = some (.ins cs.Several dx (fSeveral s pr l u)) := by walk_at "at"
      have hl' : H' l = some (.lst (outs.map V.int)) := by walk_at "at"
      have hu' : H' u = some (.lst (ins.map V.int)) := by walk_at "at"
      walk_at "go"
      refine wp_kIfS (fun hc => ?_) (fun hc => ?_)
      · have e : decide (Bounds ns pr outs ins) = false := by
          refine decide_eq_false fun z => ?_
          obtain ⟨z1, z2, z3, z4⟩ := z.2 i hi
          simp only [Bool.or_eq_true, Bool.and_eq_true, decide_eq_true_eq] at hc
          rcases hc with c | ⟨c1, c2⟩
          · omega
          · have := z4 (by omega)
            omega
        rw [e] at k
        walk_at "go"
        exact k _ (by walk_at "same")
      · simp only [Bool.or_eq_false_iff, Bool.and_eq_false_iff, decide_eq_false_iff_not] at hc
        obtain ⟨c1, c2⟩ := hc
        walk_at "go"
        refine wp_kIfS (fun hd => ?_) (fun hd => ?_)
        · have e : decide (Bounds ns pr outs ins) = false := by
            refine decide_eq_false fun z => ?_
            obtain ⟨z1, z2, z3, z4⟩ := z.2 i hi
            simp only [decide_eq_true_eq] at hd
            split at hd <;> omega
          rw [e] at k
          walk_at "go"
          exact k _ (by walk_at "same")
        · simp only [decide_eq_false_iff_not] at hd
          walk_at "go"
          refine ⟨⟨_, _, rfl, fun j hj => ?_⟩, by walk_at "same"⟩
          by_cases e : j = i
          · subst e
            refine ⟨by omega, ?_, ?_, fun h0 => ?_⟩
            · split at hd <;> omega
            · split at hd <;> omega
            · rcases c2 with c2 | c2
              · omega
              · omega
          · exact hA j (by omega)
    · obtain ⟨_, _, rfl, hA⟩ := h
      walk_at "go"
      have e : decide (Bounds ns pr outs ins) = true := decide_eq_true ⟨h0, hA⟩
      rw [e] at k
      exact k _ (by walk_at "same")
theorem pure_is_there {K : PySem.W.Frag} {cs : Cs} {vs : List V} {H : Hp} {Q : VK} {E : XK} (h : sp_is_there K cs vs H Q E) : t_is_there K cs { nx := fun _ H' => Q .non H', rt := Q } (start N_is_there vs) H := by
  obtain ⟨f, m, l, rfl, k⟩ := h
  unfold t_is_there
  show (_ : TS) _ [some (.int f), some (.int m), some (.int l)] H
  walk_at "go"
  have e : (decide (0 ≤ f) && (decide (1 ≤ m) && decide (f + m ≤ l))) = decide (IsThere f m l) := by
    apply Bool.eq_iff_iff.mpr
    rw [decide_eq_true_iff]
    simp only [Bool.and_eq_true, decide_eq_true_eq]
    exact Iff.rfl
  rw [e]
  exact k
theorem pure_Several_shows {K : PySem.W.Frag} {cs : Cs} {vs : List V} {H : Hp} {Q : VK} {E : XK} (c : OkSeveral K cs.Several) (h : sp_Several_shows K cs vs H Q E) : t_Several_shows K cs { nx := fun _ H' => Q .non H', rt := Q } (start N_Several_shows vs) H := by
  obtain ⟨x, dx, s, l, u, a, pr, many, ps, outs, ins, ns, rfl, hx, hs, hP, hl, hu, ha, hz, hm1, hm2, k⟩ := h
  have hrl := refs2_length ps
  unfold t_Several_shows
  show (_ : TS) _ [some (.ref x), some (.ref a), some (.int many), none, none, none, none] H
  walk_at "go"
  rw [hrl]
  refine wp_kIfS (fun hc => ?_) (fun hc => ?_)
  · have e : decide (SevShow ns many ps pr outs ins) = false := by
      refine decide_eq_false fun z => ?_
      have z1 := z.ln
      have z2 := z.p0
      have z3 := z.ol
      have z4 := z.il
      simp only [Bool.or_eq_true, Bool.not_eq_true', decide_eq_true_eq, decide_eq_false_iff_not] at hc
      omega
    rw [e] at k
    walk_at "go"
    exact k _ (Same.refl _)
  obtain ⟨c1, c2, c3, c4⟩ : (ps.length : Int) ≤ many ∧ 0 ≤ pr ∧ outs.length = ns.length + 1 ∧ ins.length = ns.length := by
    simp only [Bool.or_eq_false_iff, Bool.not_eq_false', decide_eq_true_eq, decide_eq_false_iff_not] at hc
    omega
  walk_at "go"
  refine forRS (xs := refs2 ps) (by walk_at "sq") (fun i σ => ∃ (q : Int) (v5 v6 : Option V), σ = [some (.ref x), some (.ref a), some (.int many), some (.int q), some (.int (sumS ns (ps.take i))), v5, v6] ∧ (Fits ns.length 0 ps ↔ Fits ns.length q (ps.drop i)))
    ⟨0, _, _, rfl, Iff.rfl⟩ (fun i y σ H' hi h s1 => ?_) (fun σ H' h s1 => ?_)
  · obtain ⟨q, _, _, rfl, hF⟩ := h
    obtain ⟨hi', rfl⟩ := refs2_at hi
    have hp := hP.same s1 _ (List.getElem_mem hi')
    rw [fits_turn hi'] at hF
    walk_at "go"
    refine wp_kIfS (fun hc => ?_) (fun hc => ?_)
    · have e : decide (SevShow ns many ps pr outs ins) = false := by
        refine decide_eq_false fun z => ?_
        obtain ⟨z1, z2, z3⟩ := hF.mp z.ft
        simp only [Bool.or_eq_true, Bool.not_eq_true', decide_eq_true_eq, decide_eq_false_iff_not] at hc
        rcases hc with hc | hc
        · omega
        · exact hc z2
      rw [e] at k
      walk_at "go"
      exact k _ (by walk_at "same")
    · simp only [Bool.or_eq_false_iff, Bool.not_eq_false', decide_eq_true_eq, decide_eq_false_iff_not] at hc
      obtain ⟨d1, d2⟩ := hc
      walk_at "go"
      refine ⟨⟨ps[i].f + ps[i].c, some (.int ps[i].f), some (.int ps[i].c), ?_, hF.trans ⟨fun z => z.2.2, fun z => ⟨by omega, d2, z⟩⟩⟩, by walk_at "same"⟩
      rw [sumS_take ns hi']
      rfl
  · obtain ⟨q, _, _, rfl, hF⟩ := h
    rw [hrl] at hF ⊢
    rw [List.drop_length] at hF
    rw [List.take_length]
    have ft : Fits ns.length 0 ps := hF.mpr trivial
    walk_at "go"
    refine ⟨x, dx, s, l, u, a, pr, outs, ins, ns, rfl, by walk_at "at", by walk_at "at", by walk_at "at", by walk_at "at", c3, c4, hz, fun H2 s2 => ?_⟩
    refine wp_kAndV (d := decide (nth outs ns.length + pr * many ≤ sumS ns ps)) (fun hc Q1 hq => ?_) ?_
    · walk_at "go"
      refine wp_mulI (.inr ⟨by omega, by omega⟩) ?_
      walk_at "go"
      rw [c3, show (-1 + ((ns.length + 1 : Nat) : Int)) = (ns.length : Int) by omega]
      exact hq
    · have e : (decide (Bounds ns pr outs ins) && decide (nth outs ns.length + pr * many ≤ sumS ns ps)) = decide (SevShow ns many ps pr outs ins) := by
        apply Bool.eq_iff_iff.mpr
        rw [decide_eq_true_iff]
        simp only [Bool.and_eq_true, decide_eq_true_eq]
        exact ⟨fun z => ⟨c1, c2, c3, c4, ft, z.1, z.2⟩, fun z => ⟨z.bd, z.td⟩⟩
      rw [e]
      exact k _ (by walk_at "same")
theorem pure_l_bounds {K : PySem.W.Frag} {cs : Cs} {vs : List V} {H : Hp} {Q : VK} {E : XK} (h : sp_l_bounds K cs vs H Q E) : t_l_bounds K cs { nx := fun _ H' => Q .non H', rt := Q } (start N_l_bounds vs) H := by
  obtain ⟨a, l, u, pr, outs, ins, ns, rfl, ha, hl, hu, hz, hz2, hz3, k⟩ := h
  unfold t_l_bounds
  show (_ : TS) _ [some (.ref a), some (.int pr), some (.ref l), some (.ref u), none] H
  walk_at "go"
  refine wp_kIfS (fun hc => ?_) (fun hc => ?_)
  · have e : decide (outs.length = ns.length + 1 ∧ ins.length = ns.length ∧ Bounds ns pr outs ins) = false := by
      refine decide_eq_false fun z => ?_
      obtain ⟨z1, z2, z3⟩ := z
      have := z3.1
      simp only [Bool.or_eq_true, Bool.not_eq_true', decide_eq_true_eq, decide_eq_false_iff_not] at hc
      omega
    rw [e] at k
    walk_at "go"
    exact k _ (Same.refl _)
  · obtain ⟨ho, hi2, h0⟩ : outs.length = ns.length + 1 ∧ ins.length = ns.length ∧ 0 ≤ nth outs 0 := by
      simp only [Bool.or_eq_false_iff, Bool.not_eq_false', decide_eq_true_eq, decide_eq_false_iff_not] at hc
      omega
    walk_at "go"
    refine forNS (fun i σ => ∃ v4, σ = [some (.ref a), some (.int pr), some (.ref l), some (.ref u), v4] ∧ ∀ j : Nat, j < i → GoodAt ns pr outs ins j)
      ⟨_, rfl, fun j hj => by omega⟩ (fun i σ H' hi h s1 => ?_) (fun σ H' h s1 => ?_)
    · obtain ⟨_, rfl, hA⟩ := h
      have hi' : i < ns.length := by omega
      rw [Int.zero_add]
      walk_at "go"
      refine wp_kIfS (fun hc => ?_) (fun hc => ?_)
      · have e : decide (outs.length = ns.length + 1 ∧ ins.length = ns.length ∧ Bounds ns pr outs ins) = false := by
          refine decide_eq_false fun z => ?_
          obtain ⟨z1, z2, z3, z4⟩ := z.2.2.2 i hi'
          simp only [Bool.or_eq_true, Bool.and_eq_true, decide_eq_true_eq] at hc
          omega
        rw [e] at k
        walk_at "go"
        exact k _ (by walk_at "same")
      · simp only [Bool.or_eq_false_iff, Bool.and_eq_false_iff, decide_eq_false_iff_not] at hc
        obtain ⟨c1, c2, c3⟩ := hc
        walk_at "go"
        refine wp_kIfS (fun hd => ?_) (fun hd => ?_)
        · have e : decide (outs.length = ns.length + 1 ∧ ins.length = ns.length ∧ Bounds ns pr outs ins) = false := by
            refine decide_eq_false fun z => ?_
            obtain ⟨z1, z2, z3, z4⟩ := z.2.2.2 i hi'
            simp only [Bool.and_eq_true, decide_eq_true_eq] at hd
            have := z4 (by omega)
            omega
          rw [e] at k
          walk_at "go"
          exact k _ (by walk_at "same")
        · simp only [Bool.and_eq_false_iff, decide_eq_false_iff_not] at hd
          walk_at "go"
          refine ⟨⟨_, rfl, fun j hj => ?_⟩, by walk_at "same"⟩
          by_cases e : j = i
          · subst e
            exact ⟨by omega, by omega, by omega, fun h0 => by omega⟩
          · exact hA j (by omega)
    · obtain ⟨_, rfl, hA⟩ := h
      walk_at "go"
      have e : decide (outs.length = ns.length + 1 ∧ ins.length = ns.length ∧ Bounds ns pr outs ins) = true := decide_eq_true ⟨ho, hi2, h0, fun i hi => hA i (by omega)⟩
      rw [e] at k
      exact k _ (by walk_at "same")
theorem pure_l_numbers {K : PySem.W.Frag} {cs : Cs} {vs : List V} {H : Hp} {Q : VK} {E : XK} (h : sp_l_numbers K cs vs H Q E) : t_l_numbers K cs { nx := fun _ H' => Q .non H', rt := Q } (start N_l_numbers vs) H := by
  obtain ⟨a, ns, rfl, ha, hl, k⟩ := h
  unfold t_l_numbers
  show (_ : TS) _ [some (.ref a), none] H
  walk_at "go"
  refine lcI_bl (ns := ns) (fun _ => true) (by walk_at "sq") (by omega) (fun _ => rfl) (fun i H1 hi s1 Q' hq => ?_) (fun p H1 np s1 hp => ?_)
  · show (_ : TE) [some (.ref a), some (.int (nth ns i))] H1 Q'
    walk_at "go"
    exact hq _ (Same.refl _)
  · walk_at "go"
    have e : (List.map (fun _ => true) ns).all id = true := by simp
    rw [e]
    exact k _ s1
theorem pure_l_right_k06 {K : PySem.W.Frag} {cs : Cs} {vs : List V} {H : Hp} {Q : VK} {E : XK} (c : OkSeveral K cs.Several) (I : IsK06 K cs) (h : sp_l_right_k06 K cs vs H Q E) : t_l_right_k06 K cs { nx := fun _ H' => Q .non H', rt := Q } (start N_l_right_k06 vs) H := by
  obtain ⟨x, dx, s, l, u, a, pr, many, ps, outs, ins, ns, rfl, hx, hs, hP, hl, hu, ha, hz, hm1, hm2, S, k⟩ := h
  obtain ⟨i, k1, k2, k3, k4⟩ := I
  have c1 := S.ln; have c2 := S.p0; have c3 := S.ol; have c4 := S.il; have c5 := S.ft; have c6 := S.bd; have c7 := S.td
  have hrl := refs2_length ps
  unfold t_l_right_k06
  show (_ : TS) _ [some (.ref a), some (.int many), some (.ref x), none, none, none, none, none] H
  walk_at "go"
  rw [hrl, decide_eq_false (by omega : ¬ many < (ps.length : Int))]
  walk_at "go"
  refine wp_lst1 fun q nq => ?_
  walk_at "go"
  refine ⟨q, [pr], rfl, upd_same, by show 1 ≤ 1000; decide, fun H2 s2 => ?_⟩
  walk_at "go"
  refine ⟨l, outs, rfl, by walk_at "at", by omega, fun H3 s3 => ?_⟩
  walk_at "go"
  refine ⟨u, ins, rfl, by walk_at "at", by omega, fun H4 s4 => ?_⟩
  walk_at "go"
  have s40 : Same H H4 := by walk_at "same"
  refine forRS (xs := refs2 ps) (by walk_at "sq") (fun i σ => ∃ (q : Int) (v5 v6 v7 : Option V), σ = [some (.ref a), some (.int many), some (.ref x), some (.int q), some (.int (sumS ns (ps.take i))), v5, v6, v7] ∧ Fits ns.length q (ps.drop i))
    ⟨0, _, _, _, rfl, c5⟩ (fun j y σ H5 hi h s5 => ?_) (fun σ H5 h s5 => ?_)
  · obtain ⟨q2, _, _, _, rfl, hF⟩ := h
    obtain ⟨hj, rfl⟩ := refs2_at hi
    have hp := hP.same (s40.trans s5) _ (List.getElem_mem hj)
    rw [fits_turn hj] at hF
    obtain ⟨f1, ⟨f2, f3, f4⟩, f5⟩ := hF
    walk_at "go"
    have e2 : (!decide ((([V.int ps[j].f, V.int ps[j].c] : List V).length : Int) = 2)) = false := rfl
    rw [e2]
    walk_at "go"
    refine wp_listT (SqT.of hp) fun b nb => ?_
    walk_at "go"
    refine ⟨b, [ps[j].f, ps[j].c], rfl, upd_same, by show 2 ≤ 1000; decide, fun H6 s6 => ?_⟩
    have hp6 : H6 ps[j].ad = some (.tup [.int ps[j].f, .int ps[j].c]) := by walk_at "at"
    walk_at "go"
    rw [decide_eq_false (by omega : ¬ ps[j].f < q2)]
    walk_at "go"
    rw [decide_eq_false (by omega : ¬ ps[j].c < 1)]
    walk_at "go"
    rw [decide_eq_false (by omega : ¬ (ns.length : Int) < ps[j].f + ps[j].c)]
    walk_at "go"
    rw [show (false || (false || false)) = false from rfl]
    walk_at "go"
    refine ⟨⟨ps[j].f + ps[j].c, some (.ref ps[j].ad), some (.int ps[j].f), some (.int ps[j].c), ?_, f5⟩, by walk_at "same"⟩
    rw [sumS_take ns hj]
    rfl
  · obtain ⟨q2, _, _, _, rfl, hF⟩ := h
    rw [hrl, List.take_length]
    walk_at "go"
    rw [decide_eq_false (by omega : ¬ pr < 0)]
    walk_at "go"
    refine ⟨a, l, u, pr, outs, ins, ns, rfl, by walk_at "at", by walk_at "at", by walk_at "at", by omega, by omega, by omega, fun H6 s6 => ?_⟩
    rw [decide_eq_true ⟨c3, c4, c6⟩]
    walk_at "go"
    refine wp_mulI (.inr ⟨by omega, by omega⟩) ?_
    walk_at "go"
    rw [c3, show (-1 + ((ns.length + 1 : Nat) : Int)) = (ns.length : Int) by omega, decide_eq_true c7]
    exact k _ (by walk_at "same")
theorem pure_l_row {K : PySem.W.Frag} {cs : Cs} {vs : List V} {H : Hp} {Q : VK} {E : XK} (h : sp_l_row K cs vs H Q E) : t_l_row K cs { nx := fun _ H' => Q .non H', rt := Q } (start N_l_row vs) H := by
  obtain ⟨a, ns, rfl, ha, hl, k⟩ := h
  unfold t_l_row
  show (_ : TS) _ [some (.ref a), none, none] H
  walk_at "go"
  refine wp_kTup (by decide) fun p np => ?_
  walk_at "go"
  have h0 : 0 ≤ ns.sum % 4 := Int.emod_nonneg _ (by decide)
  have h1 : ns.sum % 4 < 4 := Int.emod_lt_of_pos _ (by decide)
  refine ⟨p, _, _, _, rfl, rfl, SqT.of upd_same, atI_nth (ns := [3, 10, 10, 1000000]) h0 h1, ?_⟩
  walk_at "go"
  have hm := lmost_cases ns
  show kLc _ _ _ _ [some (.ref a), some (.int (lmost ns)), none] _ _ _
  refine lcI_int (ns := ns) (fun c => c % (2 * lmost ns + 1) - lmost ns) (by walk_at "sq") (by omega) (fun _ => rfl) (fun i H1 hi s1 Q' hq => ?_) (fun p H1 np s1 hp => ?_)
  · show (_ : TE) [some (.ref a), some (.int (lmost ns)), some (.int (nth ns i))] H1 Q'
    walk_at "go"
    refine wp_mulI (.inl (by decide)) ?_
    walk_at "go"
    exact hq _ (Same.refl _)
  · walk_at "go"
    exact k p H1 (by walk_at "nn") (by walk_at "same") hp
theorem pure_Several_init {K : PySem.W.Frag} {cs : Cs} {vs : List V} {H : Hp} {Q : VK} {E : XK} (c : OkSeveral K cs.Several) (h : sp_Several_init K cs vs H Q E) : t_Several_init K cs { nx := fun _ H' => Q .non H', rt := Q } (start N_Several_init vs) H := by
  obtain ⟨p, dx, s, a, b, pr, xs, ns, ms, rfl, hp, hs, ha, hb, k⟩ := h
  have hps : s ≠ p := ne_of hs hp (by intro z; cases z)
  have hpa : a ≠ p := ne_of ha hp (by intro z; cases z)
  have hpb : b ≠ p := ne_of hb hp (by intro z; cases z)
  unfold t_Several_init
  show (_ : TS) _ [some (.ref p), some (.ref s), some (.int pr), some (.ref a), some (.ref b)] H
  walk_at "go"
  refine wp_list (xs := xs) (SqL.of (by walk_at "at")) fun t nt => ?_
  have hpt : p ≠ t := ne_of_none hp nt
  have hat : a ≠ t := ne_of_none ha nt
  have hbt : b ≠ t := ne_of_none hb nt
  walk_at "go"
  refine wp_kPutF (at_new hp nt) c.cl c.stretches (by show 0 < 1000; decide) (pt_Several_stretches (x0 := t)) ?_
  walk_at "go"
  refine wp_kPutF upd_same c.cl c.price (by show 1 < 1000; decide) (pt_Several_price (x0 := t) (x1 := pr)) ?_
  walk_at "go"
  refine wp_list (xs := ns.map V.int) (SqL.of (by walk_at "at")) fun l nl => ?_
  have hpl : p ≠ l := ne_of_none upd_same nl
  have hbl : b ≠ l := ne_of_none (by walk_at "at") nl
  have htl : t ≠ l := ne_of_none (by rw [upd_ne (Ne.symm hpt), upd_ne (Ne.symm hpt)]; exact upd_same) nl
  walk_at "go"
  refine wp_kPutF (at_new upd_same nl) c.cl c.outs (by show 2 < 1000; decide) (pt_Several_outs (x0 := t) (x1 := pr) (x2 := l)) ?_
  walk_at "go"
  refine wp_list (xs := ms.map V.int) (SqL.of (by walk_at "at")) fun u nu => ?_
  have hpu : p ≠ u := ne_of_none upd_same nu
  have hlu : l ≠ u := ne_of_none (by rw [upd_ne (Ne.symm hpl)]; exact upd_same) nu
  have htu : t ≠ u := ne_of_none (by rw [upd_ne (Ne.symm hpt), upd_ne htl, upd_ne (Ne.symm hpt), upd_ne (Ne.symm hpt)]; exact upd_same) nu
  walk_at "go"
  refine wp_kPutF (at_new upd_same nu) c.cl c.ins (by show 3 < 1000; decide) (pt_Several_ins (x0 := t) (x1 := pr) (x2 := l) (x3 := u)) ?_
  walk_at "go"
  rw [upd_ne (Ne.symm hpl), upd_ne (Ne.symm hpl), upd_ne (Ne.symm htl)] at nl
  rw [upd_ne (Ne.symm hpu), upd_ne (Ne.symm hlu), upd_ne (Ne.symm hpu), upd_ne (Ne.symm hpu), upd_ne (Ne.symm htu)] at nu
  refine k t l u _ nt nl nu htl htu hlu (fun b o e hb => ?_) upd_same ?_ ?_ ?_
  · rw [upd_ne hb, upd_ne (ne_of_none e nu), upd_ne hb, upd_ne (ne_of_none e nl), upd_ne hb, upd_ne hb, upd_ne (ne_of_none e nt)]
    exact e
  · rw [upd_ne (Ne.symm hpt), upd_ne htu, upd_ne (Ne.symm hpt), upd_ne htl, upd_ne (Ne.symm hpt), upd_ne (Ne.symm hpt), upd_same]
  · rw [upd_ne (Ne.symm hpl), upd_ne hlu, upd_ne (Ne.symm hpl), upd_same]
  · rw [upd_ne (Ne.symm hpu), upd_same]
theorem pure_added {K : PySem.W.Frag} {cs : Cs} {vs : List V} {H : Hp} {Q : VK} {E : XK} (h : sp_added K cs vs H Q E) : t_added K cs { nx := fun _ H' => Q .non H', rt := Q } (start N_added vs) H := by
  obtain ⟨a, b, ns, B, rfl, ha, hb, hz, k⟩ := h
  have lb := tabF_length ns B
  have eb : ∀ i : Nat, i ≤ ns.length → nth (tabF ns B) i = B i := fun i hi => nth_tabF ns B hi
  have eb0 : nth (tabF ns B) 0 = B 0 := eb 0 (by omega)
  unfold t_added
  show (_ : TS) _ [some (.ref a), some (.ref b), none, none, none, none, none, none] H
  walk_at "go"
  rw [eb0]
  refine wp_lst1 fun f nf => ?_
  walk_at "go"
  refine wp_lst1 fun g ng => ?_
  have ng0 : H g = none := by walk_at "nn"
  have hfg : f ≠ g := ne_of_none upd_same ng
  walk_at "go"
  rw [eb0]
  walk_at "go"
  refine forE (ns := ns) (fun i σ H' => ∃ (run beg : Int) (fs gs : List Int) (v6 v7 : Option V), σ = [some (.ref a), some (.ref b), some (.ref f), some (.ref g), some (.int run), some (.int beg), v6, v7] ∧ Same H H' ∧ H' f = some (.lst (fs.map V.int)) ∧ H' g = some (.lst (gs.map V.int)) ∧ AddTo ns B i fs gs run beg)
    ⟨B 0, 0, [B 0], [-1], _, _, rfl, by walk_at "same", by walk_at "at", by walk_at "at", addTo_zero ns B⟩ (fun i σ H' _ h => ?_) (fun i σ H' T hi h nT => ?_) (fun σ H' h => ?_)
  · obtain ⟨_, _, _, _, _, _, _, s, _⟩ := h
    walk_at "sq"
  · obtain ⟨run, beg, fs, gs, _, _, rfl, s, hf, hg, A⟩ := h
    have ei := eb i (by omega)
    have lf : fs.length = i + 1 := by rw [A.fs]; simp
    have lg := A.gl
    have el := addTo_last A
    have hf' : upd H' T (.tup [.int i, .int (nth ns i)]) f = some (.lst (fs.map V.int)) := by walk_at "at"
    have hg' : upd H' T (.tup [.int i, .int (nth ns i)]) g = some (.lst (gs.map V.int)) := by walk_at "at"
    walk_at "go"
    rw [ei]
    refine wp_kIfS (fun hc => ?_) (fun hc => ?_)
    · have hs := addTo_step (run1 := B i) (beg1 := i) A hi (.inl ⟨rfl, rfl, by simp only [Bool.or_eq_true, decide_eq_true_eq] at hc; omega⟩)
      walk_at "go"
      rw [ei]
      walk_at "go"
      rw [el]
      refine wp_kIfS (fun hd => ?_) (fun hd => ?_)
      · simp only [decide_eq_true_eq] at hd
        walk_at "go"
        exact ⟨_, _, _, _, _, _, rfl, by walk_at "same", by walk_at "at", by walk_at "at", hs.1 hd⟩
      · simp only [decide_eq_false_iff_not] at hd
        walk_at "go"
        rw [el]
        walk_at "go"
        exact ⟨_, _, _, _, _, _, rfl, by walk_at "same", by walk_at "at", by walk_at "at", hs.2 hd⟩
    · have hs := addTo_step (run1 := run) (beg1 := beg) A hi (.inr ⟨rfl, rfl, by simp only [Bool.or_eq_false_iff, decide_eq_false_iff_not] at hc; omega, by simp only [Bool.or_eq_false_iff, decide_eq_false_iff_not] at hc; omega⟩)
      walk_at "go"
      rw [el]
      refine wp_kIfS (fun hd => ?_) (fun hd => ?_)
      · simp only [decide_eq_true_eq] at hd
        walk_at "go"
        exact ⟨_, _, _, _, _, _, rfl, by walk_at "same", by walk_at "at", by walk_at "at", hs.1 hd⟩
      · simp only [decide_eq_false_iff_not] at hd
        walk_at "go"
        rw [el]
        walk_at "go"
        exact ⟨_, _, _, _, _, _, rfl, by walk_at "same", by walk_at "at", by walk_at "at", hs.2 hd⟩
  · obtain ⟨run, beg, fs, gs, _, _, rfl, s, hf, hg, A⟩ := h
    walk_at "go"
    refine wp_kTup (by show 2 ≤ 100000; decide) fun T nT => ?_
    walk_at "go"
    have ef := A.fs
    subst ef
    have hf2 : H' f = some (.lst ((tabF ns (bestF ns B)).map V.int)) := hf
    exact k T f g gs _ (free_of s nT) nf ng0 (by walk_at "same") upd_same (by walk_at "at") (by walk_at "at") A.gl A.ga
theorem pure_is_number {K : PySem.W.Frag} {cs : Cs} {vs : List V} {H : Hp} {Q : VK} {E : XK} (h : sp_is_number K cs vs H Q E) : t_is_number K cs { nx := fun _ H' => Q .non H', rt := Q } (start N_is_number vs) H := by
  obtain ⟨i, rfl, k⟩ := h
  unfold t_is_number
  show (_ : TS) _ [some (.int i)] H
  walk_at "go"
  exact k
theorem pure_asked_many {K : PySem.W.Frag} {cs : Cs} {vs : List V} {H : Hp} {Q : VK} {E : XK} (h : sp_asked_many K cs vs H Q E) : t_asked_many K cs { nx := fun _ H' => Q .non H', rt := Q } (start N_asked_many vs) H := by
  obtain ⟨i, rfl, h0, k⟩ := h
  unfold t_asked_many
  show (_ : TS) _ [some (.int i)] H
  walk_at "go"
  rw [decide_eq_false (by omega : ¬ i < 0)]
  walk_at "go"
  exact k
theorem pure_asked_row {K : PySem.W.Frag} {cs : Cs} {vs : List V} {H : Hp} {Q : VK} {E : XK} (h : sp_asked_row K cs vs H Q E) : t_asked_row K cs { nx := fun _ H' => Q .non H', rt := Q } (start N_asked_row vs) H := by
  obtain ⟨a, ns, rfl, ha, hr, hl, k⟩ := h
  unfold t_asked_row
  show (_ : TS) _ [some (.ref a), none] H
  walk_at "go"
  refine lcI_bl (ns := ns) (fun _ => true) (by walk_at "sq") (by omega) (fun _ => rfl) (fun i H1 hi s1 Q' hq => ?_) (fun p H1 np s1 hp => ?_)
  · have hb := hr _ (nth_mem hi)
    show (_ : TE) [some (.ref a), some (.int (nth ns i))] H1 Q'
    walk_at "go"
    have e : (decide (-1000000 ≤ nth ns ↑i) && decide (nth ns ↑i ≤ 1000000)) = true := by simp [hb.1, hb.2]
    rw [e]
    exact hq _ (Same.refl _)
  · walk_at "go"
    have e : (List.map (fun _ => true) ns).all id = true := by simp
    rw [e]
    walk_at "go"
    exact k _ s1
theorem pure_bounds {K : PySem.W.Frag} {cs : Cs} {vs : List V} {H : Hp} {Q : VK} {E : XK} (h : sp_bounds K cs vs H Q E) : t_bounds K cs { nx := fun _ H' => Q .non H', rt := Q } (start N_bounds vs) H := by
  obtain ⟨a, ns, pr, rfl, ha, hz, k⟩ := h
  unfold t_bounds
  show (_ : TS) _ [some (.ref a), some (.int pr), none, none, none] H
  walk_at "go"
  refine wp_lst1 fun l nl => ?_
  walk_at "go"
  refine wp_lst0 fun u nu => ?_
  have nu0 : H u = none := by walk_at "nn"
  have hlu : l ≠ u := ne_of_none upd_same nu
  walk_at "go"
  have h0l : upd (upd H l (.lst (([0] : List Int).map V.int))) u (.lst (([] : List Int).map V.int)) l = some (.lst (([0] : List Int).map V.int)) := by walk_at "at"
  refine forI (ns := ns) (fun i σ H' => ∃ v, σ = [some (.ref a), some (.int pr), some (.ref l), some (.ref u), v] ∧ Same H H' ∧ H' l = some (.lst ((outsTo ns pr i).map V.int)) ∧ H' u = some (.lst ((insTo ns pr i).map V.int)))
    ⟨_, rfl, by walk_at "same", h0l, upd_same⟩ (fun i σ H' _ h => ?_) (fun i σ H' hi h => ?_) (fun σ H' h => ?_)
  · obtain ⟨_, _, s, _⟩ := h
    walk_at "sq"
  · obtain ⟨_, rfl, s, hl, hu⟩ := h
    have lo := outsTo_length ns pr i
    have li := insTo_length ns pr i
    have eo := nth_outsTo ns pr (Nat.le_refl i)
    have e1 : nth (outsTo ns pr i) (-1 + ((outsTo ns pr i).length : Int)) = (bnd ns pr i).1 := by
      rw [lo, ← eo]
      congr 1
      omega
    have l1 : ∀ y, (insTo ns pr i ++ [y]).length = i + 1 := fun y => by rw [List.length_append, li]; rfl
    walk_at "go"
    rw [e1]
    refine wp_kIfS (fun hc => ?_) (fun hc => ?_)
    · obtain ⟨j, rfl⟩ : ∃ j, i = j + 1 := ⟨i - 1, by simp only [decide_eq_true_eq, l1] at hc; omega⟩
      have f2 : ∀ y, nth (insTo ns pr (j + 1) ++ [y]) (-2 + ((insTo ns pr (j + 1) ++ [y]).length : Int)) = (bnd ns pr (j + 1)).2 := fun y => by
        rw [l1, show (-2 + ((j + 1 + 1 : Nat) : Int)) = (j : Int) by omega, nth_append_left (by omega) (by rw [li]; omega), nth_insTo ns pr (by omega)]
      walk_at "go"
      rw [nth_snoc_last, f2, max_if]
      have ez : max ((bnd ns pr (j + 1)).1 - pr + nth ns ((j + 1 : Nat) : Int)) ((bnd ns pr (j + 1)).2 + nth ns ((j + 1 : Nat) : Int)) = (bnd ns pr (j + 1 + 1)).2 := by
        rw [bnd_ins ns pr (j + 1), if_neg (by omega)]
      rw [ez]
      refine wp_gSub ?_
      walk_at "go"
      refine wp_setLastI upd_same ?_
      walk_at "go"
      rw [nth_snoc_last, e1, max_if, ← bnd_outs, ← outsTo_succ, ← insTo_succ]
      exact ⟨_, rfl, by walk_at "same", by walk_at "at", by walk_at "at"⟩
    · have h0 : i = 0 := by
        simp only [decide_eq_false_iff_not, l1] at hc
        omega
      have ez : (bnd ns pr i).1 - pr + nth ns (i : Int) = (bnd ns pr (i + 1)).2 := by
        rw [bnd_ins ns pr i, if_pos h0]
      rw [ez]
      walk_at "go"
      rw [nth_snoc_last, e1, max_if, ← bnd_outs, ← outsTo_succ, ← insTo_succ]
      exact ⟨_, rfl, by walk_at "same", by walk_at "at", by walk_at "at"⟩
  · obtain ⟨_, rfl, s, hl, hu⟩ := h
    walk_at "go"
    refine wp_kTup (by show 2 ≤ 100000; decide) fun T nT => ?_
    walk_at "go"
    exact k T l u _ (by walk_at "same") upd_same (by walk_at "at") (by walk_at "at")
theorem pure_stretches_of {K : PySem.W.Frag} {cs : Cs} {vs : List V} {H : Hp} {Q : VK} {E : XK} (h : sp_stretches_of K cs vs H Q E) : t_stretches_of K cs { nx := fun _ H' => Q .non H', rt := Q } (start N_stretches_of vs) H := by
  obtain ⟨lv, ns, ls, m, rfl, hlv, hl, hL, hz, hz2, k⟩ := h
  have hrl := refsL_length ls
  unfold t_stretches_of
  show (_ : TS) _ [some (.ref lv), some (.int (ns.length : Int)), none, none, none, none, none] H
  walk_at "go"
  refine wp_lst0 fun q nq => ?_
  walk_at "go"
  refine whileC (fun μ σ H' => ∃ (at' level : Nat) (ps : List P2) (v5 v6 : Option V), σ = [some (.ref lv), some (.int (ns.length : Int)), some (.ref q), some (.int at'), some (.int level), v5, v6] ∧ at' = μ ∧ Same H H' ∧ H' q = some (.lst (refs2 ps)) ∧ Pairs2 H' ps ∧ BackTo ns m at' level ps)
    ns.length ⟨ns.length, m, [], none, none, ?_, rfl, by walk_at "same", upd_same, (fun z hz => by cases hz), backTo_zero ns m⟩ (fun μ σ H' h => ?_)
  · rw [hrl, hl, show (((m + 1 : Nat) : Int) - 1) = (m : Int) by omega]
  · obtain ⟨at', level, ps, v5, v6, rfl, rfl, s, hq, hp, B⟩ := h
    walk_at "go"
    refine wp_kWh (fun hc => ?_) (fun hc => ?_)
    · simp only [Bool.and_eq_true, decide_eq_true_eq] at hc
      obtain ⟨c1, c2⟩ := hc
      obtain ⟨lev, rfl⟩ : ∃ lev, level = lev + 1 := ⟨level - 1, by omega⟩
      have bl := B.ln
      have bn := B.an
      have hk : lev + 1 < ls.length := by omega
      obtain ⟨t1, t2, t3, t4⟩ := (hL (lev + 1) hk).same s
      obtain ⟨gl, gb⟩ := t4 (by omega)
      have hne : ls[lev + 1].ga ≠ q := ne_of_none (hL (lev + 1) hk).2.2.1 nq
      walk_at "go"
      refine ⟨lv, _, _, _, rfl, rfl, SqL.of (by walk_at "at"), atI_refsL hk rfl, ?_⟩
      walk_at "go"
      rcases gb at' bn with ⟨e1, e2⟩ | ⟨b, e1, e2, e3⟩
      · rw [e1]
        refine wp_kIfS (fun hd => by simp at hd) (fun _ => ?_)
        walk_at "go"
        obtain ⟨j, rfl⟩ : ∃ j, at' = j + 1 := ⟨at' - 1, by omega⟩
        refine ⟨j, by omega, j, lev + 1, ps, some (.ref ls[lev + 1].fa), some (.ref ls[lev + 1].ga), ?_, rfl, by walk_at "same", by walk_at "at", hp, backTo_skip B e2⟩
        rw [show (((j + 1 : Nat) : Int) - 1) = (j : Int) by omega]
      · rw [e1]
        refine wp_kIfS (fun _ => ?_) (fun hd => by simp at hd)
        walk_at "go"
        rw [e1]
        refine wp_kTup (by show 2 ≤ 100000; decide) fun T nT => ?_
        have hq' := at_new (o' := .tup [.int b, .int ((at' : Int) - b)]) hq nT
        have hpl := refs2_length ps
        walk_at "go"
        rw [e1]
        walk_at "go"
        have hp2 : Pairs2 (upd (upd H' T (.tup [.int b, .int ((at' : Int) - b)])) q (.lst (refs2 ps ++ [.ref T]))) (ps ++ [⟨T, b, (at' : Int) - b⟩]) := by
          refine pairs2_mut (fun z hz => ?_) hq'
          rcases List.mem_append.mp hz with hz | hz
          · exact at_new (hp z hz) nT
          · rw [List.mem_singleton] at hz
            subst hz
            exact upd_same
        refine ⟨b, by omega, b, lev, ps ++ [⟨T, b, (at' : Int) - b⟩], some (.ref ls[lev + 1].fa), some (.ref ls[lev + 1].ga), ?_, rfl, by walk_at "same", ?_, hp2, backTo_take B e2 e3 T⟩
        · rw [show (((lev + 1 : Nat) : Int) - 1) = (lev : Int) by omega]
        · rw [refs2_snoc]
          exact upd_same
    · have he : level = 0 ∨ at' = 0 := by
        simp only [Bool.and_eq_false_iff, decide_eq_false_iff_not] at hc
        omega
      walk_at "go"
      refine wp_revR (SqL.of hq) fun r nr => ?_
      walk_at "go"
      rw [← refs2_rev]
      exact k r ps at' level _ (by walk_at "same") upd_same (pairs2_new hp nr) B he
theorem pure_several {K : PySem.W.Frag} {cs : Cs} {vs : List V} {H : Hp} {Q : VK} {E : XK} (h : sp_several K cs vs H Q E) : t_several K cs { nx := fun _ H' => Q .non H', rt := Q } (start N_several vs) H := by
  obtain ⟨a, ns, many, rfl, ha, hr, h0, hz, k⟩ := h
  have hM : sevM ns many ≤ ns.length := by unfold sevM; omega
  have eM : (min many (ns.length : Int) + 1).toNat = sevM ns many + 1 := by unfold sevM; omega
  have eM0 : 0 ≤ min many (ns.length : Int) + 1 ∧ min many (ns.length : Int) + 1 ≤ 1000 := by omega
  generalize hm : sevM ns many = m at hM eM
  unfold t_several
  show (_ : TS) _ [some (.ref a), some (.int many), none, none, none, none, none, none] H
  walk_at "go"
  refine ⟨a, ns, rfl, by walk_at "at", hr, by omega, fun H1 s1 => ?_⟩
  walk_at "go"
  refine ⟨many, rfl, h0, ?_⟩
  walk_at "go"
  refine lcN (fun _ => .int 0) (by omega) (fun _ => rfl) (fun b H8 hb s8 Q1 hq => ?_) (fun f0 H2 nf s2 hf => ?_)
  · show (_ : TE) [some (.ref a), some (.int many), none, none, none, none, none, some (.int (0 + b))] H8 Q1
    walk_at "go"
    exact hq _ (Same.refl _)
  rw [tab0 ns (by omega)] at hf
  walk_at "go"
  refine wp_lst0 fun g0 ng => ?_
  walk_at "go"
  refine wp_kTup (by show 2 ≤ 100000; decide) fun T0 nT0 => ?_
  walk_at "go"
  have g1 : upd (upd H2 g0 (.lst (([] : List Int).map V.int))) T0 (.tup [.ref f0, .ref g0]) T0 = some (.tup [.ref f0, .ref g0]) := upd_same
  have g2 : upd (upd H2 g0 (.lst (([] : List Int).map V.int))) T0 (.tup [.ref f0, .ref g0]) f0 = some (.lst ((tabF ns (sevF ns 0)).map V.int)) := by walk_at "at"
  have g3 : upd (upd H2 g0 (.lst (([] : List Int).map V.int))) T0 (.tup [.ref f0, .ref g0]) g0 = some (.lst (([] : List Int).map V.int)) := by walk_at "at"
  have s12 : Same H1 (upd (upd H2 g0 (.lst (([] : List Int).map V.int))) T0 (.tup [.ref f0, .ref g0])) := by walk_at "same"
  generalize upd (upd H2 g0 (.lst (([] : List Int).map V.int))) T0 (.tup [.ref f0, .ref g0]) = G0 at g1 g2 g3 s12
  refine wp_lstR (by show 1 ≤ 100000; decide) fun lv nlv => ?_
  have nlv0 : H1 lv = none := free_of s12 nlv
  have hL0 : Levels (upd G0 lv (.lst [.ref T0])) ns [⟨T0, f0, g0, []⟩] := fun k hk => by
    have : k = 0 := by rw [List.length_singleton] at hk; omega
    subst this
    exact ⟨at_new g1 nlv, at_new g2 nlv, at_new g3 nlv, fun z => by omega⟩
  have hd0 : ∀ k, (hk : k < [(⟨T0, f0, g0, []⟩ : L4)].length) → [(⟨T0, f0, g0, []⟩ : L4)][k].ad ≠ lv ∧ [(⟨T0, f0, g0, []⟩ : L4)][k].fa ≠ lv ∧ [(⟨T0, f0, g0, []⟩ : L4)][k].ga ≠ lv := fun k hk => by
    have : k = 0 := by rw [List.length_singleton] at hk; omega
    subst this
    exact ⟨ne_of_none g1 nlv, ne_of_none g2 nlv, ne_of_none g3 nlv⟩
  have s10 : Same H1 (upd G0 lv (.lst [.ref T0])) := same_new s12 nlv
  have glv : upd G0 lv (.lst [.ref T0]) lv = some (.lst (refsL [⟨T0, f0, g0, []⟩])) := upd_same
  generalize upd G0 lv (.lst [.ref T0]) = G at hL0 s10 glv
  walk_at "go"
  rw [min_if, eM]
  refine forN (fun i σ H' => ∃ (v3 : Option V) (ls : List L4), σ = [some (.ref a), some (.int many), some (.ref lv), v3, none, none, none, none] ∧ Same H1 H' ∧ H' lv = some (.lst (refsL ls)) ∧ ls.length = i + 1 ∧ Levels H' ns ls ∧ ∀ k, (hk : k < ls.length) → ls[k].ad ≠ lv ∧ ls[k].fa ≠ lv ∧ ls[k].ga ≠ lv)
    ⟨_, _, rfl, s10, glv, rfl, hL0, hd0⟩ (fun i σ H' hi h => ?_) (fun σ H' h => ?_)
  · obtain ⟨v3, ls, rfl, s, hlv, hll, hL, hN⟩ := h
    have hi' : i < ls.length := by omega
    have hrl := refsL_length ls
    obtain ⟨t1, t2, t3, t4⟩ := hL i hi'
    walk_at "go"
    refine ⟨lv, _, _, _, rfl, rfl, SqL.of hlv, atI_refsLneg (d := 0) hi' (by omega) (by omega), ?_⟩
    walk_at "go"
    refine ⟨a, ls[i].fa, ns, sevF ns i, rfl, by walk_at "at", t2, by omega, fun T f g gs H3 nT nf ng s3 hT hf hg gl gb => ?_⟩
    have hlv3 : H3 lv = some (.lst (refsL ls)) := s3 _ _ hlv
    walk_at "go"
    have hz : LvAt H3 ns ls.length ⟨T, f, g, gs⟩ := by
      rw [hll]
      exact ⟨hT, hf, hg, fun _ => ⟨gl, gb⟩⟩
    have hN' : ∀ k, (hk : k < (ls ++ [(⟨T, f, g, gs⟩ : L4)]).length) → (ls ++ [(⟨T, f, g, gs⟩ : L4)])[k].ad ≠ lv ∧ (ls ++ [(⟨T, f, g, gs⟩ : L4)])[k].fa ≠ lv ∧ (ls ++ [(⟨T, f, g, gs⟩ : L4)])[k].ga ≠ lv := fun k hk => by
      by_cases e : k < ls.length
      · rw [List.getElem_append_left e]
        exact hN k e
      · have : k = ls.length := by rw [List.length_append, List.length_singleton] at hk; omega
        subst this
        rw [List.getElem_append_right (Nat.le_refl _)]
        simp only [Nat.sub_self, List.getElem_cons_zero]
        exact ⟨Ne.symm (ne_of_none hlv nT), Ne.symm (ne_of_none hlv nf), Ne.symm (ne_of_none hlv ng)⟩
    refine ⟨some (.int (0 + i)), ls ++ [⟨T, f, g, gs⟩], rfl, same_mut (s.trans s3) nlv0, ?_, by rw [List.length_append, hll]; rfl, Levels.mut ((hL.same s3).snoc hz) hN', hN'⟩
    rw [refsL_snoc]
    exact upd_same
  · obtain ⟨v3, ls, rfl, s, hlv, hll, hL, hN⟩ := h
    have hk1 : m + 1 < ls.length := by omega
    have hk0 : m < ls.length := by omega
    obtain ⟨p1, p2, p3, p4⟩ := hL (m + 1) hk1
    obtain ⟨q1, q2, q3, q4⟩ := hL m hk0
    have l1 := tabF_length ns (sevF ns (m + 1))
    have l2 := tabF_length ns (sevF ns m)
    have e1 : nth (tabF ns (sevF ns (m + 1))) (-1 + ((tabF ns (sevF ns (m + 1))).length : Int)) = sevF ns (m + 1) ns.length := by
      rw [l1, show (-1 + ((ns.length + 1 : Nat) : Int)) = (ns.length : Int) by omega, nth_tabF ns _ (Nat.le_refl _)]
    have e2 : nth (tabF ns (sevF ns m)) (-1 + ((tabF ns (sevF ns m)).length : Int)) = sevF ns m ns.length := by
      rw [l2, show (-1 + ((ns.length + 1 : Nat) : Int)) = (ns.length : Int) by omega, nth_tabF ns _ (Nat.le_refl _)]
    have ep : sevF ns (m + 1) ns.length - sevF ns m ns.length = sevP ns m := rfl
    walk_at "go"
    refine ⟨lv, _, _, _, rfl, rfl, SqL.of hlv, atI_refsLneg (d := 0) hk1 (by omega) (by omega), ?_⟩
    walk_at "go"
    refine ⟨lv, _, _, _, rfl, rfl, SqL.of hlv, atI_refsLneg (d := 0) hk0 (by omega) (by omega), ?_⟩
    walk_at "go"
    rw [e1, e2, ep]
    refine ⟨a, ns, sevP ns m, rfl, by walk_at "at", by omega, fun TB l0 u0 H4 s4 hTB hl0 hu0 => ?_⟩
    walk_at "go"
    refine wp_slR (SqL.of (by walk_at "at")) fun w nw => ?_
    rw [cutV_but1 ls hll]
    walk_at "go"
    refine ⟨w, ns, ls.take (m + 1), m, rfl, upd_same, by rw [List.length_take]; omega, (hL.same (same_new s4 nw)).take (m + 1), by omega, by omega, fun q ps at' level H6 s6 hq hp B he => ?_⟩
    walk_at "go"
    have hl6 : H6 l0 = some (.lst ((outsTo ns (sevP ns m) ns.length).map V.int)) := s6 _ _ (at_new hl0 nw)
    have hu6 : H6 u0 = some (.lst ((insTo ns (sevP ns m) ns.length).map V.int)) := s6 _ _ (at_new hu0 nw)
    have s06 : Same H H6 := by walk_at "same"
    refine make_Several hq hl6 hu6 fun x dx t l u H7 nx nt nl nu ntl ntu nlu s7 hx ht hl hu => ?_
    walk_at "go"
    exact k x dx t l u (sevP ns m) ps.reverse _ _ H7 (sev_answer h0 hm.symm B he) (free_of s06 nx) (free_of s06 nt) (free_of s06 nl) (free_of s06 nu) ntl ntu nlu (s06.trans s7) hx ht (pairs2_rev (hp.same s7)) hl hu
theorem pure_law_k06 {K : PySem.W.Frag} {cs : Cs} {vs : List V} {H : Hp} {Q : VK} {E : XK} (c : OkSeveral K cs.Several) (h : sp_law_k06 K cs vs H Q E) : t_law_k06 K cs { nx := fun _ H' => Q .non H', rt := Q } (start N_law_k06 vs) H := by
  obtain ⟨s, ns, rfl, hS, hl, k⟩ := h
  unfold t_law_k06
  show (_ : TS) _ [some (.ref s), none, none, none, none, none, none, none, none, none, none, none] H
  have hrow := lrow_row ns
  have hlen := lrow_length ns
  generalize erow : lrow ns = row at hrow hlen
  walk_at "go"
  refine ⟨s, ns, rfl, hS, by omega, ?_⟩
  rw [erow]
  intro r H1 nr s1 hr
  walk_at "go"
  refine wp_list (xs := row.map V.int) (by walk_at "sq") fun h nh => ?_
  walk_at "go"
  generalize ns.sum = S
  refine wp_lst5 fun L nL => ?_
  have hr2 : upd (upd H1 h (.lst (row.map V.int))) L (.lst (([0, 1, S / 4 % 5, 2 + S / 20 % ((row.length : Int) / 4 + 1), 1] : List Int).map V.int)) r = some (.lst (row.map V.int)) := by walk_at "at"
  have hh2 : upd (upd H1 h (.lst (row.map V.int))) L (.lst (([0, 1, S / 4 % 5, 2 + S / 20 % ((row.length : Int) / 4 + 1), 1] : List Int).map V.int)) h = some (.lst (row.map V.int)) := by walk_at "at"
  have hL2 : upd (upd H1 h (.lst (row.map V.int))) L (.lst (([0, 1, S / 4 % 5, 2 + S / 20 % ((row.length : Int) / 4 + 1), 1] : List Int).map V.int)) L = some (.lst (([0, 1, S / 4 % 5, 2 + S / 20 % ((row.length : Int) / 4 + 1), 1] : List Int).map V.int)) := upd_same
  have hdr : r ≠ L := ne_of_none (at_new hr nh) nL
  have hdh : h ≠ L := ne_of_none upd_same nL
  have hC5 : ([0, 1, S / 4 % 5, 2 + S / 20 % ((row.length : Int) / 4 + 1), 1] : List Int).length = 5 := rfl
  have hlim : ∀ z ∈ ([0, 1, S / 4 % 5, 2 + S / 20 % ((row.length : Int) / 4 + 1), 1] : List Int), 0 ≤ z ∧ z ≤ 1000 := by
    intro z hz
    have e1 : 0 ≤ S / 4 % 5 := Int.emod_nonneg _ (by omega)
    have e2 : S / 4 % 5 < 5 := Int.emod_lt_of_pos _ (by omega)
    have e3 : 0 ≤ S / 20 % ((row.length : Int) / 4 + 1) := Int.emod_nonneg _ (by omega)
    have e4 : S / 20 % ((row.length : Int) / 4 + 1) < (row.length : Int) / 4 + 1 := Int.emod_lt_of_pos _ (by omega)
    simp only [List.mem_cons, List.not_mem_nil, or_false] at hz
    omega
  generalize ([0, 1, S / 4 % 5, 2 + S / 20 % ((row.length : Int) / 4 + 1), 1] : List Int) = C at hL2 hr2 hh2 hlim hC5 ⊢
  generalize upd (upd H1 h (.lst (row.map V.int))) L (.lst (C.map V.int)) = G at hL2 hr2 hh2 ⊢
  walk_at "go"
  refine wp_join (fun H' => ∃ C' : List Int, H' L = some (.lst (C'.map V.int)) ∧ (∀ z ∈ C', 0 ≤ z ∧ z ≤ 1000) ∧ H' r = some (.lst (row.map V.int)) ∧ H' h = some (.lst (row.map V.int))) (fun hc n' hn => ?_) (fun _ => ⟨C, hL2, hlim, hr2, hh2⟩) (fun H2 h2 => ?_)
  · have hrL : r ≠ L := hdr
    have hhL : h ≠ L := hdh
    walk_at "go"
    refine hn _ ⟨C ++ [(row.length : Int) + 3], upd_same, fun z hz => ?_, by walk_at "at", by walk_at "at"⟩
    rcases List.mem_append.mp hz with hz | hz
    · exact hlim z hz
    · rw [List.mem_singleton] at hz
      subst hz
      omega
  obtain ⟨C2, hLc, hlim2, hr3, hh3⟩ := h2
  walk_at "go"
  refine forIS (ns := C2) (SqL.of hLc) (fun i σ => ∃ v5 v6 v7 v8 v9, σ = [some (.ref s), some (.ref r), some (.ref h), some (.int S), some (.ref L), v5, v6, v7, v8, v9, none, none]) ⟨_, _, _, _, _, rfl⟩ (fun i σ H3 hi h3 s3 => ?_) (fun σ H3 h3 s3 => ?_)
  · obtain ⟨v5, v6, v7, v8, v9, rfl⟩ := h3
    obtain ⟨m0, m1⟩ := hlim2 _ (nth_mem hi)
    generalize nth C2 (i : Int) = many at m0 m1 ⊢
    have hr4 : H3 r = some (.lst (row.map V.int)) := s3 _ _ hr3
    have hh4 : H3 h = some (.lst (row.map V.int)) := s3 _ _ hh3
    clear hr3 hh3 hLc hL2 hr2 hh2
    walk_at "go"
    refine ⟨h, row, many, rfl, hh4, hrow, m0, by omega, fun x dx st lo li pr ps outs ins H5 SH nx nst nlo nli d1 d2 d3 s5 hx hst hP hlo hli => ?_⟩
    have c1 := SH.ln; have c2 := SH.p0; have c3 := SH.ol; have c4 := SH.il; have c5 := SH.ft; have c6 := SH.bd; have c7 := SH.td
    walk_at "go"
    refine ⟨x, dx, st, lo, li, r, pr, many, ps, outs, ins, row, rfl, hx, hst, hP, hlo, hli, s5 _ _ hr4, by omega, by omega, by omega, SH, fun H6 s6 => ?_⟩
    walk_at "go"
    refine ⟨x, dx, st, lo, li, r, pr, many, ps, outs, ins, row, rfl, s6 _ _ hx, s6 _ _ hst, hP.same s6, s6 _ _ hlo, s6 _ _ hli, s6 _ _ (s5 _ _ hr4), by omega, by omega, by omega, fun H7 s7 => ?_⟩
    rw [decide_eq_true SH]
    walk_at "go"
    simp only [decide_true, Bool.not_true, Bool.or_false]
    walk_at "go"
    refine wp_revI (ns := row) (by walk_at "sq") fun b nb => ?_
    have s37 : Same H3 H7 := (s5.trans s6).trans s7
    have s57 : Same H5 H7 := s6.trans s7
    walk_at "go"
    have hb8 : upd H7 b (.lst (row.reverse.map V.int)) b = some (.lst (row.reverse.map V.int)) := upd_same
    have s58 : Same H5 (upd H7 b (.lst (row.reverse.map V.int))) := same_new s57 nb
    have s38 : Same H3 (upd H7 b (.lst (row.reverse.map V.int))) := same_new s37 nb
    generalize upd H7 b (.lst (row.reverse.map V.int)) = H8 at hb8 s58 s38 ⊢
    refine lcW2 (K := K) (σi := fun i => [some (.ref s), some (.ref r), some (.ref h), some (.int S), some (.ref L), some (.int many), some (.ref x), some (.ref b), v8, v9, some (.int (ps.getD i ⟨0, 0, 0⟩).f), some (.int (ps.getD i ⟨0, 0, 0⟩).c)]) (walkP (ps := ps)) (fun i => V.int (segS row.reverse (ps.getD i ⟨0, 0, 0⟩).f (ps.getD i ⟨0, 0, 0⟩).c)) (by omega) (fun H' s' => SqL.of (s' _ _ (s58 _ _ hst))) (fun i H' k' hi' s' hk => ?_) (fun i => rfl) (fun i H' hi' s' Q1 hq => ?_) (fun p H9 np s9 hp => ?_)
    · have hz : H' (ps.getD i ⟨0, 0, 0⟩).ad = some (.tup [.int (ps.getD i ⟨0, 0, 0⟩).f, .int (ps.getD i ⟨0, 0, 0⟩).c]) := by
        rw [List.getD_eq_getElem?_getD, List.getElem?_eq_getElem hi']
        exact s' _ _ (s58 _ _ (hP _ (List.getElem_mem hi')))
      show gTup K 2 _ _ [some (.ref s), some (.ref r), some (.ref h), some (.int S), some (.ref L), some (.int many), some (.ref x), some (.ref b), v8, v9, none, none] _ _
      walk_at "go"
      exact hk
    · show (_ : TE) [some (.ref s), some (.ref r), some (.ref h), some (.int S), some (.ref L), some (.int many), some (.ref x), some (.ref b), v8, v9, some (.int (ps.getD i ⟨0, 0, 0⟩).f), some (.int (ps.getD i ⟨0, 0, 0⟩).c)] H' Q1
      have hb9 := s' _ _ hb8
      walk_at "go"
      exact hq _ (by walk_at "same")
    rw [sumS_list] at hp
    have hp' : H9 p = some (.lst ((ps.map fun z => segS row.reverse z.f z.c).map V.int)) := hp
    have hb9 := s9 _ _ hb8
    have s59 := s58.trans s9
    have hx9 : H9 x = some (.ins cs.Several dx (fSeveral st pr lo li)) := s59 _ _ hx
    have s39 : Same H3 H9 := s38.trans s9
    walk_at "go"
    have hbl : row.reverse.length = row.length := List.length_reverse
    refine ⟨b, lo, li, pr, outs, ins, row.reverse, rfl, hb9, s59 _ _ hlo, s59 _ _ hli, by omega, by omega, by omega, fun H10 s10 => ?_⟩
    have s510 := s59.trans s10
    have hx10 : H10 x = some (.ins cs.Several dx (fSeveral st pr lo li)) := s510 _ _ hx
    have hlo10 : H10 lo = some (.lst (outs.map V.int)) := s510 _ _ hlo
    walk_at "go"
    refine ⟨x, dx, st, lo, li, b, pr, many, ps, outs, ins, row.reverse, rfl, hx10, s510 _ _ hst, hP.same s510, hlo10, s510 _ _ hli, s10 _ _ hb9, by omega, by omega, by omega, fun H11 s11 => ?_⟩
    have hx11 := s11 _ _ hx10
    have hlo11 := s11 _ _ hlo10
    walk_at "go"
    refine wp_kAndV (d := decide (nth outs row.length + pr * many ≤ sumS row.reverse ps)) (fun hc Q1 hq => ?_) ?_
    · walk_at "go"
      refine wp_mulI (.inr ⟨by omega, by omega⟩) ?_
      walk_at "go"
      rw [c3, show (-1 + ((row.length + 1 : Nat) : Int)) = (row.length : Int) by omega]
      exact hq
    have e : (decide (outs.length = row.reverse.length + 1 ∧ ins.length = row.reverse.length ∧ Bounds row.reverse pr outs ins) && decide (nth outs row.length + pr * many ≤ sumS row.reverse ps)) = decide (SevShow row.reverse many ps pr outs ins) := by
      apply Bool.eq_iff_iff.mpr
      rw [decide_eq_true_iff]
      simp only [Bool.and_eq_true, decide_eq_true_eq]
      constructor
      · rintro ⟨⟨z1, z2, z3⟩, z4⟩
        exact ⟨c1, c2, z1, z2, by rw [hbl]; exact c5, z3, by rw [hbl]; exact z4⟩
      · intro z
        have z7 := z.td
        rw [hbl] at z7
        exact ⟨⟨z.ol, z.il, z.bd⟩, z7⟩
    rw [e]
    have s511 : Same H5 H11 := s510.trans s11
    have hli11 : H11 li = some (.lst (ins.map V.int)) := s511 _ _ hli
    have hxl : x ≠ li := ne_of hx11 hli11 (by intro z; cases z)
    have hrl : r ≠ li := ne_of_none hr4 nli
    walk_at "go"
    simp only [decide_true, Bool.not_true, Bool.or_false]
    walk_at "go"
    refine ⟨x, dx, st, lo, li, r, pr, many, ps, outs, ins ++ [0], row, rfl, (upd_ne hxl).trans hx11, (upd_ne d2).trans (s511 _ _ hst), pairs2_mut (hP.same s511) hli11, (upd_ne d3).trans hlo11, upd_same, (upd_ne hrl).trans (s511 _ _ (s5 _ _ hr4)), by omega, by omega, by omega, fun H12 s12 => ?_⟩
    have e : decide (SevShow row many ps pr outs (ins ++ [0])) = false := by
      refine decide_eq_false fun z => ?_
      have := z.il
      rw [List.length_append, List.length_singleton] at this
      omega
    rw [e]
    walk_at "go"
    simp only [decide_true, Bool.not_true, Bool.or_false]
    walk_at "go"
    exact ⟨⟨_, _, _, _, _, rfl⟩, (s3.trans (same_mut ((s39.trans s10).trans s11) nli)).trans s12⟩
  · obtain ⟨v5, v6, v7, v8, v9, rfl⟩ := h3
    walk_at "go"
    refine wp_lst0 fun e0 ne0 => ?_
    walk_at "go"
    refine ⟨e0, [], 2, rfl, upd_same, (fun z hz => by cases hz), by omega, by show 0 ≤ 900; decide, fun x dx st lo li pr ps outs ins H5 SH nx nst nlo nli d1 d2 d3 s5 hx hst hP hlo hli => ?_⟩
    have hps : ps = [] := by
      cases ps with
      | nil => rfl
      | cons z rest =>
        obtain ⟨_, ⟨z1, z2, z3⟩, _⟩ := SH.ft
        have z3' : z.f + z.c ≤ 0 := z3
        omega
    subst hps
    have hst' : H5 st = some (.lst (([] : List Int).map V.int)) := hst
    walk_at "go"
    refine wp_lst0 fun e1 ne1 => ?_
    walk_at "go"
    simp only [decide_true]
    exact k _
end Bs
namespace Bs
open PySem L2
def top (i : Nat) : Stmt := PySem.Challenge.pw_beststretch_k06_whole_several.main.body.getD i (.Pass ⟨0, 0, 0, 0⟩)
abbrev s_Several_bounds : Stmt := inClass (top 16) 2
theorem sc_Several_bounds : FnScope N_Several_bounds (["self", "row"] : List Str) (defScope s_Several_bounds) := ⟨rfl, rfl, rfl, by decide +kernel, rfl, by decide +kernel, by decide +kernel⟩
abbrev s_is_there : Stmt := top 12
theorem sc_is_there : FnScope N_is_there (["first", "many", "length"] : List Str) (defScope s_is_there) := ⟨rfl, rfl, rfl, by decide +kernel, rfl, by decide +kernel, by decide +kernel⟩
abbrev s_Several_shows : Stmt := inClass (top 16) 1
theorem sc_Several_shows : FnScope N_Several_shows (["self", "row", "many"] : List Str) (defScope s_Several_shows) := ⟨rfl, rfl, rfl, by decide +kernel, rfl, by decide +kernel, by decide +kernel⟩
abbrev s_l_bounds : Stmt := top 25
theorem sc_l_bounds : FnScope N_l_bounds (["_law_row_here", "_law_price", "_law_outs", "_law_ins"] : List Str) (defScope s_l_bounds) := ⟨rfl, rfl, rfl, by decide +kernel, rfl, by decide +kernel, by decide +kernel⟩
abbrev s_l_numbers : Stmt := top 24
theorem sc_l_numbers : FnScope N_l_numbers (["_law_found"] : List Str) (defScope s_l_numbers) := ⟨rfl, rfl, rfl, by decide +kernel, rfl, by decide +kernel, by decide +kernel⟩
abbrev s_l_right_k06 : Stmt := top 26
theorem sc_l_right_k06 : FnScope N_l_right_k06 (["_law_row_here", "_law_many", "_law_found"] : List Str) (defScope s_l_right_k06) := ⟨rfl, rfl, rfl, by decide +kernel, rfl, by decide +kernel, by decide +kernel⟩
abbrev s_l_row : Stmt := top 23
theorem sc_l_row : FnScope N_l_row (["_law_script"] : List Str) (defScope s_l_row) := ⟨rfl, rfl, rfl, by decide +kernel, rfl, by decide +kernel, by decide +kernel⟩
abbrev s_Several_init : Stmt := inClass (top 16) 0
theorem sc_Several_init : FnScope N_Several_init (["self", "stretches", "price", "outs", "ins"] : List Str) (defScope s_Several_init) := ⟨rfl, rfl, rfl, by decide +kernel, rfl, by decide +kernel, by decide +kernel⟩
abbrev s_added : Stmt := top 18
theorem sc_added : FnScope N_added (["row", "best"] : List Str) (defScope s_added) := ⟨rfl, rfl, rfl, by decide +kernel, rfl, by decide +kernel, by decide +kernel⟩
abbrev s_is_number : Stmt := top 6
theorem sc_is_number : FnScope N_is_number (["thing"] : List Str) (defScope s_is_number) := ⟨rfl, rfl, rfl, by decide +kernel, rfl, by decide +kernel, by decide +kernel⟩
abbrev s_asked_many : Stmt := top 8
theorem sc_asked_many : FnScope N_asked_many (["many"] : List Str) (defScope s_asked_many) := ⟨rfl, rfl, rfl, by decide +kernel, rfl, by decide +kernel, by decide +kernel⟩
abbrev s_asked_row : Stmt := top 7
theorem sc_asked_row : FnScope N_asked_row (["row"] : List Str) (defScope s_asked_row) := ⟨rfl, rfl, rfl, by decide +kernel, rfl, by decide +kernel, by decide +kernel⟩
abbrev s_bounds : Stmt := top 20
theorem sc_bounds : FnScope N_bounds (["row", "price"] : List Str) (defScope s_bounds) := ⟨rfl, rfl, rfl, by decide +kernel, rfl, by decide +kernel, by decide +kernel⟩
abbrev s_stretches_of : Stmt := top 19
theorem sc_stretches_of : FnScope N_stretches_of (["levels", "length"] : List Str) (defScope s_stretches_of) := ⟨rfl, rfl, rfl, by decide +kernel, rfl, by decide +kernel, by decide +kernel⟩
abbrev s_several : Stmt := top 21
theorem sc_several : FnScope N_several (["row", "many"] : List Str) (defScope s_several) := ⟨rfl, rfl, rfl, by decide +kernel, rfl, by decide +kernel, by decide +kernel⟩
abbrev s_law_k06 : Stmt := top 27
theorem sc_law_k06 : FnScope N_law_k06 (["_law_script"] : List Str) (defScope s_law_k06) := ⟨rfl, rfl, rfl, by decide +kernel, rfl, by decide +kernel, by decide +kernel⟩
structure Txt (K : PySem.W.Frag) (mg : Str → Option Value) (cs : Cs) where
  n_all : mg "all" = none
  n_bool : mg "bool" = none
  n_enumerate : mg "enumerate" = none
  n_int : mg "int" = none
  n_isinstance : mg "isinstance" = none
  n_len : mg "len" = none
  n_list : mg "list" = none
  n_max : mg "max" = none
  n_min : mg "min" = none
  n_range : mg "range" = none
  n_sum : mg "sum" = none
  n_tuple : mg "tuple" = none
  k_FARTHEST : Tok
  g_FARTHEST : mg "FARTHEST" = some (.int 1000000 k_FARTHEST)
  g_Answer : mg "Answer" = some (.ref cs.Answer)
  g_Best : mg "Best" = some (.ref cs.Best)
  g_Several : mg "Several" = some (.ref cs.Several)
  g_Steep : mg "Steep" = some (.ref cs.Steep)
  cl_Several : Cls K cs.Several
  na_Several_ins : NoAttr K cs.Several "ins"
  na_Several_outs : NoAttr K cs.Several "outs"
  na_Several_price : NoAttr K cs.Several "price"
  na_Several_stretches : NoAttr K cs.Several "stretches"
  f_Several_bounds : Addr
  d_Several_bounds : FuncData
  F_Several_bounds : Fun K "bounds" "Several.bounds" s_Several_bounds f_Several_bounds d_Several_bounds
  b_Several_bounds : Binds K d_Several_bounds (["self", "row"] : List Str) []
  me_Several_bounds : Meth K cs.Several "bounds" f_Several_bounds
  f_is_there : Addr
  d_is_there : FuncData
  F_is_there : Fun K "is_there" "is_there" s_is_there f_is_there d_is_there
  b_is_there : Binds K d_is_there (["first", "many", "length"] : List Str) []
  g_is_there : mg "is_there" = some (.ref f_is_there)
  f_Several_shows : Addr
  d_Several_shows : FuncData
  F_Several_shows : Fun K "shows" "Several.shows" s_Several_shows f_Several_shows d_Several_shows
  b_Several_shows : Binds K d_Several_shows (["self", "row", "many"] : List Str) []
  me_Several_shows : Meth K cs.Several "shows" f_Several_shows
  f_l_bounds : Addr
  d_l_bounds : FuncData
  F_l_bounds : Fun K "_law_bounds" "_law_bounds" s_l_bounds f_l_bounds d_l_bounds
  b_l_bounds : Binds K d_l_bounds (["_law_row_here", "_law_price", "_law_outs", "_law_ins"] : List Str) []
  g_l_bounds : mg "_law_bounds" = some (.ref f_l_bounds)
  f_l_numbers : Addr
  d_l_numbers : FuncData
  F_l_numbers : Fun K "_law_numbers" "_law_numbers" s_l_numbers f_l_numbers d_l_numbers
  b_l_numbers : Binds K d_l_numbers (["_law_found"] : List Str) []
  g_l_numbers : mg "_law_numbers" = some (.ref f_l_numbers)
  f_l_right_k06 : Addr
  d_l_right_k06 : FuncData
  F_l_right_k06 : Fun K "_law_right" "_law_right" s_l_right_k06 f_l_right_k06 d_l_right_k06
  b_l_right_k06 : Binds K d_l_right_k06 (["_law_row_here", "_law_many", "_law_found"] : List Str) []
  g_l_right_k06 : mg "_law_right" = some (.ref f_l_right_k06)
  f_l_row : Addr
  d_l_row : FuncData
  F_l_row : Fun K "_law_row" "_law_row" s_l_row f_l_row d_l_row
  b_l_row : Binds K d_l_row (["_law_script"] : List Str) []
  g_l_row : mg "_law_row" = some (.ref f_l_row)
  f_Several_init : Addr
  d_Several_init : FuncData
  F_Several_init : Fun K "__init__" "Several.__init__" s_Several_init f_Several_init d_Several_init
  b_Several_init : Binds K d_Several_init (["self", "stretches", "price", "outs", "ins"] : List Str) []
  f_added : Addr
  d_added : FuncData
  F_added : Fun K "added" "added" s_added f_added d_added
  b_added : Binds K d_added (["row", "best"] : List Str) []
  g_added : mg "added" = some (.ref f_added)
  f_is_number : Addr
  d_is_number : FuncData
  F_is_number : Fun K "is_number" "is_number" s_is_number f_is_number d_is_number
  b_is_number : Binds K d_is_number (["thing"] : List Str) []
  g_is_number : mg "is_number" = some (.ref f_is_number)
  f_asked_many : Addr
  d_asked_many : FuncData
  F_asked_many : Fun K "asked_many" "asked_many" s_asked_many f_asked_many d_asked_many
  b_asked_many : Binds K d_asked_many (["many"] : List Str) []
  g_asked_many : mg "asked_many" = some (.ref f_asked_many)
  f_asked_row : Addr
  d_asked_row : FuncData
  F_asked_row : Fun K "asked_row" "asked_row" s_asked_row f_asked_row d_asked_row
  b_asked_row : Binds K d_asked_row (["row"] : List Str) []
  g_asked_row : mg "asked_row" = some (.ref f_asked_row)
  f_bounds : Addr
  d_bounds : FuncData
  F_bounds : Fun K "bounds" "bounds" s_bounds f_bounds d_bounds
  b_bounds : Binds K d_bounds (["row", "price"] : List Str) []
  g_bounds : mg "bounds" = some (.ref f_bounds)
  f_stretches_of : Addr
  d_stretches_of : FuncData
  F_stretches_of : Fun K "stretches_of" "stretches_of" s_stretches_of f_stretches_of d_stretches_of
  b_stretches_of : Binds K d_stretches_of (["levels", "length"] : List Str) []
  g_stretches_of : mg "stretches_of" = some (.ref f_stretches_of)
  f_several : Addr
  d_several : FuncData
  F_several : Fun K "several" "several" s_several f_several d_several
  b_several : Binds K d_several (["row", "many"] : List Str) []
  g_several : mg "several" = some (.ref f_several)
  f_law_k06 : Addr
  d_law_k06 : FuncData
  F_law_k06 : Fun K "law" "law" s_law_k06 f_law_k06 d_law_k06
  b_law_k06 : Binds K d_law_k06 (["_law_script"] : List Str) []
  g_law_k06 : mg "law" = some (.ref f_law_k06)
  mk_Several : Mk K cs.Several f_Several_init
  xn : PySem.W.specialIn K (.builtin "object.__class__") "__get__" = some (some (.builtin "getset_descriptor.__get__"))
  xt : PySem.W.takesIn K (.builtin "object.__class__") = some true
  xa_Several : PySem.W.findIn K (.ref cs.Several) "__class__" = some (some (.builtin "object.__class__"))
  xm_Several : PySem.W.mroIn K cs.Several (.type "object") = some true
  xc_Answer : PySem.W.isClsIn K cs.Answer = true
  xy_Answer : PySem.W.typeIn K (.ref cs.Answer) = some (.type "type")
  xs_Several : PySem.W.subIn K (.ref cs.Several) (.ref cs.Several) = some true
  xk_Several_Answer : PySem.W.subIn K (.ref cs.Several) (.ref cs.Answer) = some true
  xc_Several : PySem.W.isClsIn K cs.Several = true
  xy_Several : PySem.W.typeIn K (.ref cs.Several) = some (.type "type")
  xk_Several_Several : PySem.W.subIn K (.ref cs.Several) (.ref cs.Several) = some true
  xc_Best : PySem.W.isClsIn K cs.Best = true
  xy_Best : PySem.W.typeIn K (.ref cs.Best) = some (.type "type")
  xk_Several_Best : PySem.W.subIn K (.ref cs.Several) (.ref cs.Best) = some false
  xc_Steep : PySem.W.isClsIn K cs.Steep = true
  xy_Steep : PySem.W.typeIn K (.ref cs.Steep) = some (.type "type")
  xk_Several_Steep : PySem.W.subIn K (.ref cs.Several) (.ref cs.Steep) = some false
section
variable {P : Program} {w : World} {K : PySem.W.Frag} {mg : Str → Option Value} {base : Heap} {cs : Cs}
theorem T_isi_Several (T : Txt K mg cs) : IsiC K cs.Several := ⟨T.cl_Several, T.xa_Several, T.xn, T.xt, T.xm_Several⟩
theorem T_kit_Several_Answer (T : Txt K mg cs) : PySem.W.kitOne K (.ref cs.Several) (.ref cs.Answer) = some true := kitOne_of T.xc_Answer T.xy_Answer T.xk_Several_Answer T.xs_Several
theorem T_kit_Several_Several (T : Txt K mg cs) : PySem.W.kitOne K (.ref cs.Several) (.ref cs.Several) = some true := kitOne_of T.xc_Several T.xy_Several T.xk_Several_Several T.xs_Several
theorem T_kit_Several_Best (T : Txt K mg cs) : PySem.W.kitOne K (.ref cs.Several) (.ref cs.Best) = some false := kitOne_of T.xc_Best T.xy_Best T.xk_Several_Best T.xs_Several
theorem T_kit_Several_Steep (T : Txt K mg cs) : PySem.W.kitOne K (.ref cs.Several) (.ref cs.Steep) = some false := kitOne_of T.xc_Steep T.xy_Steep T.xk_Several_Steep T.xs_Several
theorem T_okSeveral (T : Txt K mg cs) : OkSeveral K cs.Several := ⟨T.cl_Several, T.na_Several_stretches, T.na_Several_price, T.na_Several_outs, T.na_Several_ins⟩
theorem T_isK06 (T : Txt K mg cs) : IsK06 K cs := ⟨T_isi_Several T, T_kit_Several_Answer T, T_kit_Several_Several T, T_kit_Several_Best T, T_kit_Several_Steep T⟩
theorem ok_Several_bounds (T : Txt K mg cs) : FnOk P w K mg base CX0 1 T.f_Several_bounds T.d_Several_bounds (["self", "row"] : List Str) (sp_Several_bounds K cs) := by
  refine T.F_Several_bounds.ok sc_Several_bounds (fun vs H Q E h => len_Several_bounds h) (fun cdv A outer s H vs Q E hr h => ⟨t_Several_bounds K cs, ?_, pure_Several_bounds (T_okSeveral T) h⟩)
  have hu := hu_of hr
  exact (pss_cons (ps_if (pt_cmpR op_ltI (pe_ix ix_list (pe_fld (pv 0) rfl) pe_int (fun _ _ => rfl)) pe_int (nomark _)) (pss_one (ps_ret pe_bl)) pss_nil)
  (pss_cons (ps_for PassesOwn.never rfl (pi_enum (by rfl) T.n_enumerate (pa_cons (pv 1) pa_nil)) (pg_tup (by rfl) (pgs_cons (pg_name (i := 2) sc_Several_bounds.nd rfl (Or.inl rfl)) (pgs_cons (pg_name (i := 3) sc_Several_bounds.nd rfl (Or.inl rfl)) pgs_nil))) (pss_cons (ps_if (PW.pt (pw_or (pt_cmpR op_ltI (pe_ix ix_list (pe_fld (pv 0) rfl) (pv 2) (fun _ _ => rfl)) (pe_op op_addI (pe_op op_subI (pe_ix ix_list (pe_fld (pv 0) rfl) (pv 2) (fun _ _ => rfl)) (pe_fld (pv 0) rfl)) (pv 3)) (nomark _)) (pw_or1 (PW.pt (pw_and (pt_cmpR op_gtI (pv 2) pe_int (nomark _)) (pw_and1 (pt_cmpR op_ltI (pe_ix ix_list (pe_fld (pv 0) rfl) (pv 2) (fun _ _ => rfl)) (pe_op op_addI (pe_ix ix_list (pe_fld (pv 0) rfl) (pe_op op_subI (pv 2) pe_int) (fun _ _ => rfl)) (pv 3)) (nomark _)))))))) (pss_one (ps_ret pe_bl)) pss_nil)
  (pss_one (ps_if (pt_cmpR op_ltI (pe_ix ix_list (pe_fld (pv 0) rfl) (pe_op op_addI (pv 2) pe_int) (fun _ _ => rfl)) (pe_callB (c_max2 rfl) (by rfl) T.n_max (by decide +kernel) (pa_cons (pe_ix ix_list (pe_fld (pv 0) rfl) (pv 2) (fun _ _ => rfl)) (pa_cons (pe_ix ix_list (pe_fld (pv 0) rfl) (pv 2) (fun _ _ => rfl)) pa_nil))) (nomark _)) (pss_one (ps_ret pe_bl)) pss_nil))))
  (pss_one (ps_ret pe_bl))))
theorem ok_is_there (T : Txt K mg cs) : FnOk P w K mg base CX0 1 T.f_is_there T.d_is_there (["first", "many", "length"] : List Str) (sp_is_there K cs) := by
  refine T.F_is_there.ok sc_is_there (fun vs H Q E h => len_is_there h) (fun cdv A outer s H vs Q E hr h => ⟨t_is_there K cs, ?_, pure_is_there  h⟩)
  have hu := hu_of hr
  exact (pss_one (ps_ret (pe_and (pe_cmpR op_geI (pv 0) pe_int (nomark _)) (pe_and (pe_cmpR op_geI (pv 1) pe_int (nomark _)) (pe_one (pe_cmpR op_leI (pe_op op_addI (pv 0) (pv 1)) (pv 2) (nomark _)))))))
theorem ok_Several_shows (T : Txt K mg cs) : FnOk P w K mg base CX0 2 T.f_Several_shows T.d_Several_shows (["self", "row", "many"] : List Str) (sp_Several_shows K cs) := by
  refine T.F_Several_shows.ok sc_Several_shows (fun vs H Q E h => len_Several_shows h) (fun cdv A outer s H vs Q E hr h => ⟨t_Several_shows K cs, ?_, pure_Several_shows (T_okSeveral T) h⟩)
  have hu := hu_of hr
  exact (pss_cons (ps_if (PW.pt (pw_or (pt_cmpR op_gtI (pe_callB c_len (by rfl) T.n_len (by decide +kernel) (pa_cons (pe_fld (pv 0) rfl) pa_nil)) (pv 2) (nomark _)) (pw_or (pt_cmpR op_ltI (pe_fld (pv 0) rfl) pe_int (nomark _)) (pw_or (pt_cmpR op_ne (pe_callB c_len (by rfl) T.n_len (by decide +kernel) (pa_cons (pe_fld (pv 0) rfl) pa_nil)) (pe_op op_addI (pe_callB c_len (by rfl) T.n_len (by decide +kernel) (pa_cons (pv 1) pa_nil)) pe_int) (nomark _)) (pw_or1 (pt_cmpR op_ne (pe_callB c_len (by rfl) T.n_len (by decide +kernel) (pa_cons (pe_fld (pv 0) rfl) pa_nil)) (pe_callB c_len (by rfl) T.n_len (by decide +kernel) (pa_cons (pv 1) pa_nil)) (nomark _))))))) (pss_one (ps_ret pe_bl)) pss_nil)
  (pss_cons (ps_set (i := 3) sc_Several_shows.nd rfl (Or.inl rfl) pe_int)
  (pss_cons (ps_set (i := 4) sc_Several_shows.nd rfl (Or.inl rfl) pe_int)
  (pss_cons (ps_for PassesOwn.never rfl (pi_list (pe_fld (pv 0) rfl)) (pg_tup (by rfl) (pgs_cons (pg_name (i := 5) sc_Several_shows.nd rfl (Or.inl rfl)) (pgs_cons (pg_name (i := 6) sc_Several_shows.nd rfl (Or.inl rfl)) pgs_nil))) (pss_cons (ps_if (PW.pt (pw_or (pt_cmpR op_ltI (pv 5) (pv 3) (nomark _)) (pw_or1 (pt_not (pt_val (pe_call (ok_is_there T) (hr.mono (by decide)) rfl T.g_is_there T.F_is_there.kp T.b_is_there .nil pass0 (pa_cons (pv 5) (pa_cons (pv 6) (pa_cons (pe_callB c_len (by rfl) T.n_len (by decide +kernel) (pa_cons (pv 1) pa_nil)) pa_nil))))))))) (pss_one (ps_ret pe_bl)) pss_nil)
  (pss_cons (ps_set (i := 4) sc_Several_shows.nd rfl (Or.inl rfl) (pe_op op_addI (pv 4) (pe_callB (cr_sum rfl) (by rfl) T.n_sum (by decide +kernel) (pa_cons (pe_slice sl_list (pv 1) (po_some (pv 5)) (po_some (pe_op op_addI (pv 5) (pv 6)))) pa_nil))))
  (pss_one (ps_set (i := 3) sc_Several_shows.nd rfl (Or.inl rfl) (pe_op op_addI (pv 5) (pv 6)))))))
  (pss_one (ps_ret (pe_and (pe_meth (pv 0) T.cl_Several T.me_Several_bounds (ok_Several_bounds T) (hr.mono (by decide)) T.b_Several_bounds .nil pass0 (pa_cons (pv 1) pa_nil)) (pe_one (pe_cmpR op_leI (pe_op op_addI (pe_ix ix_list (pe_fld (pv 0) rfl) (pe_un un_negI pe_int) (fun _ _ => rfl)) (pe_op op_mulI (pe_fld (pv 0) rfl) (pv 2))) (pv 4) (nomark _))))))))))
theorem ok_l_bounds (T : Txt K mg cs) : FnOk P w K mg base CX0 1 T.f_l_bounds T.d_l_bounds (["_law_row_here", "_law_price", "_law_outs", "_law_ins"] : List Str) (sp_l_bounds K cs) := by
  refine T.F_l_bounds.ok sc_l_bounds (fun vs H Q E h => len_l_bounds h) (fun cdv A outer s H vs Q E hr h => ⟨t_l_bounds K cs, ?_, pure_l_bounds  h⟩)
  have hu := hu_of hr
  exact (pss_cons (ps_if (PW.pt (pw_or (pt_cmpR op_ne (pe_callB c_len (by rfl) T.n_len (by decide +kernel) (pa_cons (pv 2) pa_nil)) (pe_op op_addI (pe_callB c_len (by rfl) T.n_len (by decide +kernel) (pa_cons (pv 0) pa_nil)) pe_int) (nomark _)) (pw_or (pt_cmpR op_ne (pe_callB c_len (by rfl) T.n_len (by decide +kernel) (pa_cons (pv 3) pa_nil)) (pe_callB c_len (by rfl) T.n_len (by decide +kernel) (pa_cons (pv 0) pa_nil)) (nomark _)) (pw_or1 (pt_cmpR op_ltI (pe_ix ix_list (pv 2) pe_int (fun _ _ => rfl)) pe_int (nomark _)))))) (pss_one (ps_ret pe_bl)) pss_nil)
  (pss_cons (ps_for PassesOwn.never rfl (pi_range1 (by rfl) T.n_range (pa_cons (pe_callB c_len (by rfl) T.n_len (by decide +kernel) (pa_cons (pv 0) pa_nil)) pa_nil)) (pg_name (i := 4) sc_l_bounds.nd rfl (Or.inl rfl)) (pss_cons (ps_if (PW.pt (pw_or (pt_cmpR op_ltI (pe_ix ix_list (pv 3) (pv 4) (fun _ _ => rfl)) (pe_op op_addI (pe_op op_subI (pe_ix ix_list (pv 2) (pv 4) (fun _ _ => rfl)) (pv 1)) (pe_ix ix_list (pv 0) (pv 4) (fun _ _ => rfl))) (nomark _)) (pw_or (pt_cmpR op_ltI (pe_ix ix_list (pv 2) (pe_op op_addI (pv 4) pe_int) (fun _ _ => rfl)) (pe_ix ix_list (pv 2) (pv 4) (fun _ _ => rfl)) (nomark _)) (pw_or1 (pt_cmpR op_ltI (pe_ix ix_list (pv 2) (pe_op op_addI (pv 4) pe_int) (fun _ _ => rfl)) (pe_ix ix_list (pv 3) (pv 4) (fun _ _ => rfl)) (nomark _)))))) (pss_one (ps_ret pe_bl)) pss_nil)
  (pss_one (ps_if (PW.pt (pw_and (pt_cmpR op_gtI (pv 4) pe_int (nomark _)) (pw_and1 (pt_cmpR op_ltI (pe_ix ix_list (pv 3) (pv 4) (fun _ _ => rfl)) (pe_op op_addI (pe_ix ix_list (pv 3) (pe_op op_subI (pv 4) pe_int) (fun _ _ => rfl)) (pe_ix ix_list (pv 0) (pv 4) (fun _ _ => rfl))) (nomark _))))) (pss_one (ps_ret pe_bl)) pss_nil))))
  (pss_one (ps_ret pe_bl))))
theorem ok_l_numbers (T : Txt K mg cs) : FnOk P w K mg base CX0 1 T.f_l_numbers T.d_l_numbers (["_law_found"] : List Str) (sp_l_numbers K cs) := by
  refine T.F_l_numbers.ok sc_l_numbers (fun vs H Q E h => len_l_numbers h) (fun cdv A outer s H vs Q E hr h => ⟨t_l_numbers K cs, ?_, pure_l_numbers  h⟩)
  have hu := hu_of hr
  exact (pss_cons (ps_if (pt_not (pt_val (pe_callB call_isi (by rfl) T.n_isinstance (by decide +kernel) (pa_cons (pv 0) (pa_cons (pe_bltn (by rfl) T.n_list (by decide +kernel) rfl) pa_nil))))) (pss_one (ps_ret pe_bl)) pss_nil)
  (pss_one (ps_ret (pe_callB (cr_all rfl) (by rfl) T.n_all (by decide +kernel) (pa_cons (pe_lc (own := [("_law_one", 1)]) rfl sc_l_numbers.nd (pi_list (pv 0)) (blkOk_by (own := [("_law_one", 1)]) (N := N_l_numbers) (sc := defScope s_l_numbers) (by decide +kernel)) (fun _ _ _ _ _ => (pg_name (i := 1) sc_l_numbers.nd rfl (Or.inl rfl))) (fun _ _ _ _ _ => pts_nil) (fun _ _ _ _ _ => (pe_and (pe_callB call_isi (by rfl) T.n_isinstance (by decide +kernel) (pa_cons (pv 1) (pa_cons (pe_bltn (by rfl) T.n_int (by decide +kernel) rfl) pa_nil))) (pe_one (pe_not (pe_callB call_isi (by rfl) T.n_isinstance (by decide +kernel) (pa_cons (pv 1) (pa_cons (pe_bltn (by rfl) T.n_bool (by decide +kernel) rfl) pa_nil)))))))) pa_nil)))))
theorem ok_l_right_k06 (T : Txt K mg cs) : FnOk P w K mg base CX0 2 T.f_l_right_k06 T.d_l_right_k06 (["_law_row_here", "_law_many", "_law_found"] : List Str) (sp_l_right_k06 K cs) := by
  refine T.F_l_right_k06.ok sc_l_right_k06 (fun vs H Q E h => len_l_right_k06 h) (fun cdv A outer s H vs Q E hr h => ⟨t_l_right_k06 K cs, ?_, pure_l_right_k06 (T_okSeveral T) (T_isK06 T) h⟩)
  have hu := hu_of hr
  exact (pss_cons (ps_if (PW.pt (pw_or (pt_not (pt_val (pe_callB call_isi (by rfl) T.n_isinstance (by decide +kernel) (pa_cons (pv 2) (pa_cons (pe_glob rfl T.g_Answer rfl) pa_nil))))) (pw_or (pt_not (pt_val (pe_callB call_isi (by rfl) T.n_isinstance (by decide +kernel) (pa_cons (pv 2) (pa_cons (pe_glob rfl T.g_Several rfl) pa_nil))))) (pw_or1 (pt_val (pe_callB call_isi (by rfl) T.n_isinstance (by decide +kernel) (pa_cons (pv 2) (pa_cons (pe_glob rfl T.g_Best rfl) pa_nil)))))))) (pss_one (ps_ret pe_bl)) pss_nil)
  (pss_cons (ps_if (PW.pt (pw_or (pt_val (pe_callB call_isi (by rfl) T.n_isinstance (by decide +kernel) (pa_cons (pv 2) (pa_cons (pe_glob rfl T.g_Steep rfl) pa_nil)))) (pw_or (pt_not (pt_val (pe_callB call_isi (by rfl) T.n_isinstance (by decide +kernel) (pa_cons (pe_fld (pv 2) rfl) (pa_cons (pe_bltn (by rfl) T.n_list (by decide +kernel) rfl) pa_nil))))) (pw_or1 (pt_cmpR op_gtI (pe_callB c_len (by rfl) T.n_len (by decide +kernel) (pa_cons (pe_fld (pv 2) rfl) pa_nil)) (pv 1) (nomark _)))))) (pss_one (ps_ret pe_bl)) pss_nil)
  (pss_cons (ps_if (PW.pt (pw_or (pt_not (pt_val (pe_call (ok_l_numbers T) (hr.mono (by decide)) rfl T.g_l_numbers T.F_l_numbers.kp T.b_l_numbers .nil pass0 (pa_cons (pe_lst (pa_cons (pe_fld (pv 2) rfl) pa_nil)) pa_nil)))) (pw_or (pt_not (pt_val (pe_call (ok_l_numbers T) (hr.mono (by decide)) rfl T.g_l_numbers T.F_l_numbers.kp T.b_l_numbers .nil pass0 (pa_cons (pe_fld (pv 2) rfl) pa_nil)))) (pw_or1 (pt_not (pt_val (pe_call (ok_l_numbers T) (hr.mono (by decide)) rfl T.g_l_numbers T.F_l_numbers.kp T.b_l_numbers .nil pass0 (pa_cons (pe_fld (pv 2) rfl) pa_nil)))))))) (pss_one (ps_ret pe_bl)) pss_nil)
  (pss_cons (ps_set (i := 3) sc_l_right_k06.nd rfl (Or.inl rfl) pe_int)
  (pss_cons (ps_set (i := 4) sc_l_right_k06.nd rfl (Or.inl rfl) pe_int)
  (pss_cons (ps_for PassesOwn.never rfl (pi_list (pe_fld (pv 2) rfl)) (pg_name (i := 5) sc_l_right_k06.nd rfl (Or.inl rfl)) (pss_cons (ps_if (PW.pt (pw_or (pt_not (pt_val (pe_callB call_isi (by rfl) T.n_isinstance (by decide +kernel) (pa_cons (pv 5) (pa_cons (pe_bltn (by rfl) T.n_tuple (by decide +kernel) rfl) pa_nil))))) (pw_or (pt_cmpR op_ne (pe_callB c_len (by rfl) T.n_len (by decide +kernel) (pa_cons (pv 5) pa_nil)) pe_int (nomark _)) (pw_or1 (pt_not (pt_val (pe_call (ok_l_numbers T) (hr.mono (by decide)) rfl T.g_l_numbers T.F_l_numbers.kp T.b_l_numbers .nil pass0 (pa_cons (pe_callTy c_list (by rfl) T.n_list (by decide +kernel) (pa_cons (pv 5) pa_nil)) pa_nil)))))))) (pss_one (ps_ret pe_bl)) pss_nil)
  (pss_cons (ps_asg (pv 5) (pg_tup (by rfl) (pgs_cons (pg_name (i := 6) sc_l_right_k06.nd rfl (Or.inl rfl)) (pgs_cons (pg_name (i := 7) sc_l_right_k06.nd rfl (Or.inl rfl)) pgs_nil))))
  (pss_cons (ps_if (PW.pt (pw_or (pt_cmpR op_ltI (pv 6) (pv 3) (nomark _)) (pw_or (pt_cmpR op_ltI (pv 7) pe_int (nomark _)) (pw_or1 (pt_cmpR op_gtI (pe_op op_addI (pv 6) (pv 7)) (pe_callB c_len (by rfl) T.n_len (by decide +kernel) (pa_cons (pv 0) pa_nil)) (nomark _)))))) (pss_one (ps_ret pe_bl)) pss_nil)
  (pss_cons (ps_set (i := 3) sc_l_right_k06.nd rfl (Or.inl rfl) (pe_op op_addI (pv 6) (pv 7)))
  (pss_one (ps_set (i := 4) sc_l_right_k06.nd rfl (Or.inl rfl) (pe_op op_addI (pv 4) (pe_callB (cr_sum rfl) (by rfl) T.n_sum (by decide +kernel) (pa_cons (pe_slice sl_list (pv 0) (po_some (pv 6)) (po_some (pv 3))) pa_nil))))))))))
  (pss_cons (ps_if (PW.pt (pw_or (pt_cmpR op_ltI (pe_fld (pv 2) rfl) pe_int (nomark _)) (pw_or1 (pt_not (pt_val (pe_call (ok_l_bounds T) (hr.mono (by decide)) rfl T.g_l_bounds T.F_l_bounds.kp T.b_l_bounds .nil pass0 (pa_cons (pv 0) (pa_cons (pe_fld (pv 2) rfl) (pa_cons (pe_fld (pv 2) rfl) (pa_cons (pe_fld (pv 2) rfl) pa_nil)))))))))) (pss_one (ps_ret pe_bl)) pss_nil)
  (pss_one (ps_ret (pe_cmpR op_leI (pe_op op_addI (pe_ix ix_list (pe_fld (pv 2) rfl) (pe_un un_negI pe_int) (fun _ _ => rfl)) (pe_op op_mulI (pe_fld (pv 2) rfl) (pv 1))) (pv 4) (nomark _)))))))))))
theorem ok_l_row (T : Txt K mg cs) : FnOk P w K mg base CX0 1 T.f_l_row T.d_l_row (["_law_script"] : List Str) (sp_l_row K cs) := by
  refine T.F_l_row.ok sc_l_row (fun vs H Q E h => len_l_row h) (fun cdv A outer s H vs Q E hr h => ⟨t_l_row K cs, ?_, pure_l_row  h⟩)
  have hu := hu_of hr
  exact (pss_cons (ps_set (i := 1) sc_l_row.nd rfl (Or.inr rfl) (pe_ix ix_tup (pe_tup (pa_cons pe_int (pa_cons pe_int (pa_cons pe_int (pa_cons pe_int pa_nil))))) (pe_op op_modI (pe_callB (cr_sum rfl) (by rfl) T.n_sum (by decide +kernel) (pa_cons (pv 0) pa_nil)) pe_int) (fun _ _ => rfl)))
  (pss_one (ps_ret (pe_lc (own := [("_law_cell", 2)]) rfl sc_l_row.nd (pi_list (pv 0)) (blkOk_by (own := [("_law_cell", 2)]) (N := N_l_row) (sc := defScope s_l_row) (by decide +kernel)) (fun _ _ _ _ _ => (pg_name (i := 2) sc_l_row.nd rfl (Or.inl rfl))) (fun _ _ _ _ _ => pts_nil) (fun _ _ _ _ _ => (pe_op op_subI (pe_op op_modI (pv 2) (pe_op op_addI (pe_op op_mulI pe_int (pv 1)) pe_int)) (pv 1)))))))
theorem ok_Several_init (T : Txt K mg cs) : FnOk P w K mg base CX0 1 T.f_Several_init T.d_Several_init (["self", "stretches", "price", "outs", "ins"] : List Str) (sp_Several_init K cs) := by
  refine T.F_Several_init.ok sc_Several_init (fun vs H Q E h => len_Several_init h) (fun cdv A outer s H vs Q E hr h => ⟨t_Several_init K cs, ?_, pure_Several_init (T_okSeveral T) h⟩)
  have hu := hu_of hr
  exact (pss_cons (ps_fld (pv 0) (pe_callTy c_list (by rfl) T.n_list (by decide +kernel) (pa_cons (pv 1) pa_nil)) rfl)
  (pss_cons (ps_fld (pv 0) (pv 2) rfl)
  (pss_cons (ps_fld (pv 0) (pe_callTy c_list (by rfl) T.n_list (by decide +kernel) (pa_cons (pv 3) pa_nil)) rfl)
  (pss_one (ps_fld (pv 0) (pe_callTy c_list (by rfl) T.n_list (by decide +kernel) (pa_cons (pv 4) pa_nil)) rfl)))))
theorem ok_added (T : Txt K mg cs) : FnOk P w K mg base CX0 1 T.f_added T.d_added (["row", "best"] : List Str) (sp_added K cs) := by
  refine T.F_added.ok sc_added (fun vs H Q E h => len_added h) (fun cdv A outer s H vs Q E hr h => ⟨t_added K cs, ?_, pure_added  h⟩)
  have hu := hu_of hr
  exact (pss_cons (ps_set (i := 2) sc_added.nd rfl (Or.inl rfl) (pe_lst (pa_cons (pe_ix ix_list (pv 1) pe_int (fun _ _ => rfl)) pa_nil)))
  (pss_cons (ps_set (i := 3) sc_added.nd rfl (Or.inl rfl) (pe_lst (pa_cons (pe_un un_negI pe_int) pa_nil)))
  (pss_cons (ps_set (i := 4) sc_added.nd rfl (Or.inl rfl) (pe_ix ix_list (pv 1) pe_int (fun _ _ => rfl)))
  (pss_cons (ps_set (i := 5) sc_added.nd rfl (Or.inl rfl) pe_int)
  (pss_cons (ps_for PassesOwn.never rfl (pi_enum (by rfl) T.n_enumerate (pa_cons (pv 0) pa_nil)) (pg_tup (by rfl) (pgs_cons (pg_name (i := 6) sc_added.nd rfl (Or.inl rfl)) (pgs_cons (pg_name (i := 7) sc_added.nd rfl (Or.inl rfl)) pgs_nil))) (pss_cons (ps_if (PW.pt (pw_or (pt_cmpR op_eq (pv 6) pe_int (nomark _)) (pw_or1 (pt_cmpR op_gtI (pe_ix ix_list (pv 1) (pv 6) (fun _ _ => rfl)) (pv 4) (nomark _))))) (pss_cons (ps_set (i := 4) sc_added.nd rfl (Or.inl rfl) (pe_ix ix_list (pv 1) (pv 6) (fun _ _ => rfl)))
  (pss_one (ps_set (i := 5) sc_added.nd rfl (Or.inl rfl) (pv 6)))) pss_nil)
  (pss_cons (ps_set (i := 4) sc_added.nd rfl (Or.inl rfl) (pe_op op_addI (pv 4) (pv 7)))
  (pss_one (ps_if (pt_cmpR op_gtI (pv 4) (pe_ix ix_list (pv 2) (pe_un un_negI pe_int) (fun _ _ => rfl)) (nomark _)) (pss_cons (ps_expr (pe_bm PySem.F.plainAttrs_list PySem.F.slot_list_append PySem.F.type_list_append mt_append (pv 2) (pa_cons (pv 4) pa_nil)))
  (pss_one (ps_expr (pe_bm PySem.F.plainAttrs_list PySem.F.slot_list_append PySem.F.type_list_append mt_append (pv 3) (pa_cons (pv 5) pa_nil))))) (pss_cons (ps_expr (pe_bm PySem.F.plainAttrs_list PySem.F.slot_list_append PySem.F.type_list_append mt_append (pv 2) (pa_cons (pe_ix ix_list (pv 2) (pe_un un_negI pe_int) (fun _ _ => rfl)) pa_nil)))
  (pss_one (ps_expr (pe_bm PySem.F.plainAttrs_list PySem.F.slot_list_append PySem.F.type_list_append mt_append (pv 3) (pa_cons (pe_un un_negI pe_int) pa_nil))))))))))
  (pss_one (ps_ret (pe_tup (pa_cons (pv 2) (pa_cons (pv 3) pa_nil))))))))))
theorem ok_is_number (T : Txt K mg cs) : FnOk P w K mg base CX0 1 T.f_is_number T.d_is_number (["thing"] : List Str) (sp_is_number K cs) := by
  refine T.F_is_number.ok sc_is_number (fun vs H Q E h => len_is_number h) (fun cdv A outer s H vs Q E hr h => ⟨t_is_number K cs, ?_, pure_is_number  h⟩)
  have hu := hu_of hr
  exact (pss_one (ps_ret (pe_and (pe_callB call_isi (by rfl) T.n_isinstance (by decide +kernel) (pa_cons (pv 0) (pa_cons (pe_bltn (by rfl) T.n_int (by decide +kernel) rfl) pa_nil))) (pe_one (pe_not (pe_callB call_isi (by rfl) T.n_isinstance (by decide +kernel) (pa_cons (pv 0) (pa_cons (pe_bltn (by rfl) T.n_bool (by decide +kernel) rfl) pa_nil))))))))
theorem ok_asked_many (T : Txt K mg cs) : FnOk P w K mg base CX0 2 T.f_asked_many T.d_asked_many (["many"] : List Str) (sp_asked_many K cs) := by
  refine T.F_asked_many.ok sc_asked_many (fun vs H Q E h => len_asked_many h) (fun cdv A outer s H vs Q E hr h => ⟨t_asked_many K cs, ?_, pure_asked_many  h⟩)
  have hu := hu_of hr
  exact (pss_one (ps_if (PW.pt (pw_or (pt_not (pt_val (pe_call (ok_is_number T) (hr.mono (by decide)) rfl T.g_is_number T.F_is_number.kp T.b_is_number .nil pass0 (pa_cons (pv 0) pa_nil)))) (pw_or1 (pt_cmpR op_ltI (pv 0) pe_int (nomark _))))) (pss_one ps_never) pss_nil))
theorem ok_asked_row (T : Txt K mg cs) : FnOk P w K mg base CX0 2 T.f_asked_row T.d_asked_row (["row"] : List Str) (sp_asked_row K cs) := by
  refine T.F_asked_row.ok sc_asked_row (fun vs H Q E h => len_asked_row h) (fun cdv A outer s H vs Q E hr h => ⟨t_asked_row K cs, ?_, pure_asked_row  h⟩)
  have hu := hu_of hr
  exact (pss_one (ps_if (PW.pt (pw_or (pt_not (pt_val (pe_callB call_isi (by rfl) T.n_isinstance (by decide +kernel) (pa_cons (pv 0) (pa_cons (pe_bltn (by rfl) T.n_list (by decide +kernel) rfl) pa_nil))))) (pw_or1 (pt_not (pt_val (pe_callB (cr_all rfl) (by rfl) T.n_all (by decide +kernel) (pa_cons (pe_lc (own := [("one", 1)]) rfl sc_asked_row.nd (pi_list (pv 0)) (blkOk_by (own := [("one", 1)]) (N := N_asked_row) (sc := defScope s_asked_row) (by decide +kernel)) (fun _ _ _ _ _ => (pg_name (i := 1) sc_asked_row.nd rfl (Or.inl rfl))) (fun _ _ _ _ _ => pts_nil) (fun _ _ _ _ _ => (pe_and (pe_call (ok_is_number T) (hr.mono (by decide)) rfl T.g_is_number T.F_is_number.kp T.b_is_number .nil pass0 (pa_cons (pv 1) pa_nil)) (pe_one (pe_chain op_leI op_leI (pe_un un_negI (pe_glob rfl T.g_FARTHEST ⟨_, rfl⟩)) (pv 1) (pe_glob rfl T.g_FARTHEST ⟨_, rfl⟩)))))) pa_nil))))))) (pss_one ps_never) pss_nil))
theorem ok_bounds (T : Txt K mg cs) : FnOk P w K mg base CX0 1 T.f_bounds T.d_bounds (["row", "price"] : List Str) (sp_bounds K cs) := by
  refine T.F_bounds.ok sc_bounds (fun vs H Q E h => len_bounds h) (fun cdv A outer s H vs Q E hr h => ⟨t_bounds K cs, ?_, pure_bounds  h⟩)
  have hu := hu_of hr
  exact (pss_cons (ps_set (i := 2) sc_bounds.nd rfl (Or.inl rfl) (pe_lst (pa_cons pe_int pa_nil)))
  (pss_cons (ps_set (i := 3) sc_bounds.nd rfl (Or.inl rfl) (pe_lst pa_nil))
  (pss_cons (ps_for PassesOwn.never rfl (pi_list (pv 0)) (pg_name (i := 4) sc_bounds.nd rfl (Or.inl rfl)) (pss_cons (ps_expr (pe_bm PySem.F.plainAttrs_list PySem.F.slot_list_append PySem.F.type_list_append mt_append (pv 3) (pa_cons (pe_op op_addI (pe_op op_subI (pe_ix ix_list (pv 2) (pe_un un_negI pe_int) (fun _ _ => rfl)) (pv 1)) (pv 4)) pa_nil)))
  (pss_cons (ps_if (pt_cmpR op_gtI (pe_callB c_len (by rfl) T.n_len (by decide +kernel) (pa_cons (pv 3) pa_nil)) pe_int (nomark _)) (pss_one (ps_asg (pe_callB (c_max2 rfl) (by rfl) T.n_max (by decide +kernel) (pa_cons (pe_ix ix_list (pv 3) (pe_un un_negI pe_int) (fun _ _ => rfl)) (pa_cons (pe_op op_addI (pe_ix ix_list (pv 3) (pe_un un_negI pe_int) (fun _ _ => rfl)) (pv 4)) pa_nil))) (pg_sub (pv 3) (pe_un un_negI pe_int) set_list))) pss_nil)
  (pss_one (ps_expr (pe_bm PySem.F.plainAttrs_list PySem.F.slot_list_append PySem.F.type_list_append mt_append (pv 2) (pa_cons (pe_callB (c_max2 rfl) (by rfl) T.n_max (by decide +kernel) (pa_cons (pe_ix ix_list (pv 2) (pe_un un_negI pe_int) (fun _ _ => rfl)) (pa_cons (pe_ix ix_list (pv 3) (pe_un un_negI pe_int) (fun _ _ => rfl)) pa_nil))) pa_nil)))))))
  (pss_one (ps_ret (pe_tup (pa_cons (pv 2) (pa_cons (pv 3) pa_nil))))))))
theorem ok_stretches_of (T : Txt K mg cs) : FnOk P w K mg base CX0 1 T.f_stretches_of T.d_stretches_of (["levels", "length"] : List Str) (sp_stretches_of K cs) := by
  refine T.F_stretches_of.ok sc_stretches_of (fun vs H Q E h => len_stretches_of h) (fun cdv A outer s H vs Q E hr h => ⟨t_stretches_of K cs, ?_, pure_stretches_of  h⟩)
  have hu := hu_of hr
  exact (pss_cons (ps_set (i := 2) sc_stretches_of.nd rfl (Or.inl rfl) (pe_lst pa_nil))
  (pss_cons (ps_set (i := 3) sc_stretches_of.nd rfl (Or.inl rfl) (pv 1))
  (pss_cons (ps_set (i := 4) sc_stretches_of.nd rfl (Or.inl rfl) (pe_op op_subI (pe_callB c_len (by rfl) T.n_len (by decide +kernel) (pa_cons (pv 0) pa_nil)) pe_int))
  (pss_cons (ps_while PassesOwn.never (PW.pt (pw_and (pt_cmpR op_gtI (pv 4) pe_int (nomark _)) (pw_and1 (pt_cmpR op_gtI (pv 3) pe_int (nomark _))))) (pss_cons (ps_asg (pe_ix ix_list (pv 0) (pv 4) (fun _ _ => rfl)) (pg_tup (by rfl) (pgs_cons (pg_name (i := 5) sc_stretches_of.nd rfl (Or.inl rfl)) (pgs_cons (pg_name (i := 6) sc_stretches_of.nd rfl (Or.inl rfl)) pgs_nil))))
  (pss_one (ps_if (pt_cmpR op_geI (pe_ix ix_list (pv 6) (pv 3) (fun _ _ => rfl)) pe_int (nomark _)) (pss_cons (ps_expr (pe_bm PySem.F.plainAttrs_list PySem.F.slot_list_append PySem.F.type_list_append mt_append (pv 2) (pa_cons (pe_tup (pa_cons (pe_ix ix_list (pv 6) (pv 3) (fun _ _ => rfl)) (pa_cons (pe_op op_subI (pv 3) (pe_ix ix_list (pv 6) (pv 3) (fun _ _ => rfl))) pa_nil))) pa_nil)))
  (pss_cons (ps_set (i := 3) sc_stretches_of.nd rfl (Or.inl rfl) (pe_ix ix_list (pv 6) (pv 3) (fun _ _ => rfl)))
  (pss_one (ps_set (i := 4) sc_stretches_of.nd rfl (Or.inl rfl) (pe_op op_subI (pv 4) pe_int))))) (pss_one (ps_set (i := 3) sc_stretches_of.nd rfl (Or.inl rfl) (pe_op op_subI (pv 3) pe_int)))))))
  (pss_one (ps_ret (pe_revL (pv 2))))))))
theorem ok_several (T : Txt K mg cs) : FnOk P w K mg base CX0 3 T.f_several T.d_several (["row", "many"] : List Str) (sp_several K cs) := by
  refine T.F_several.ok sc_several (fun vs H Q E h => len_several h) (fun cdv A outer s H vs Q E hr h => ⟨t_several K cs, ?_, pure_several  h⟩)
  have hu := hu_of hr
  exact (pss_cons (ps_expr (pe_call (ok_asked_row T) (hr.mono (by decide)) rfl T.g_asked_row T.F_asked_row.kp T.b_asked_row .nil pass0 (pa_cons (pv 0) pa_nil)))
  (pss_cons (ps_expr (pe_call (ok_asked_many T) (hr.mono (by decide)) rfl T.g_asked_many T.F_asked_many.kp T.b_asked_many .nil pass0 (pa_cons (pv 1) pa_nil)))
  (pss_cons (ps_set (i := 2) sc_several.nd rfl (Or.inl rfl) (pe_lst (pa_cons (pe_tup (pa_cons (pe_lc (own := [("at", 7)]) rfl sc_several.nd (pi_range1 (by rfl) T.n_range (pa_cons (pe_op op_addI (pe_callB c_len (by rfl) T.n_len (by decide +kernel) (pa_cons (pv 0) pa_nil)) pe_int) pa_nil)) (blkOk_by (own := [("at", 7)]) (N := N_several) (sc := defScope s_several) (by decide +kernel)) (fun _ _ _ _ _ => (pg_name (i := 7) sc_several.nd rfl (Or.inl rfl))) (fun _ _ _ _ _ => pts_nil) (fun _ _ _ _ _ => pe_int)) (pa_cons (pe_lst pa_nil) pa_nil))) pa_nil)))
  (pss_cons (ps_for PassesOwn.never rfl (pi_range1 (by rfl) T.n_range (pa_cons (pe_op op_addI (pe_callB (c_min2 rfl) (by rfl) T.n_min (by decide +kernel) (pa_cons (pv 1) (pa_cons (pe_callB c_len (by rfl) T.n_len (by decide +kernel) (pa_cons (pv 0) pa_nil)) pa_nil))) pe_int) pa_nil)) (pg_name (i := 3) sc_several.nd rfl (Or.inl rfl)) (pss_one (ps_expr (pe_bm PySem.F.plainAttrs_list PySem.F.slot_list_append PySem.F.type_list_append mt_append (pv 2) (pa_cons (pe_call (ok_added T) (hr.mono (by decide)) rfl T.g_added T.F_added.kp T.b_added .nil pass0 (pa_cons (pv 0) (pa_cons (pe_ix ix_tup (pe_ix ix_list (pv 2) (pe_un un_negI pe_int) (fun _ _ => rfl)) pe_int (fun _ _ => rfl)) pa_nil))) pa_nil)))))
  (pss_cons (ps_set (i := 4) sc_several.nd rfl (Or.inl rfl) (pe_op op_subI (pe_ix ix_list (pe_ix ix_tup (pe_ix ix_list (pv 2) (pe_un un_negI pe_int) (fun _ _ => rfl)) pe_int (fun _ _ => rfl)) (pe_un un_negI pe_int) (fun _ _ => rfl)) (pe_ix ix_list (pe_ix ix_tup (pe_ix ix_list (pv 2) (pe_un un_negI pe_int) (fun _ _ => rfl)) pe_int (fun _ _ => rfl)) (pe_un un_negI pe_int) (fun _ _ => rfl))))
  (pss_cons (ps_asg (pe_call (ok_bounds T) (hr.mono (by decide)) rfl T.g_bounds T.F_bounds.kp T.b_bounds .nil pass0 (pa_cons (pv 0) (pa_cons (pv 4) pa_nil))) (pg_tup (by rfl) (pgs_cons (pg_name (i := 5) sc_several.nd rfl (Or.inl rfl)) (pgs_cons (pg_name (i := 6) sc_several.nd rfl (Or.inl rfl)) pgs_nil))))
  (pss_one (ps_ret (pe_make T.mk_Several (ok_Several_init T) (hr.mono (by decide)) rfl T.g_Several T.b_Several_init .nil pass0 (pa_cons (pe_call (ok_stretches_of T) (hr.mono (by decide)) rfl T.g_stretches_of T.F_stretches_of.kp T.b_stretches_of .nil pass0 (pa_cons (pe_slice sl_list (pv 2) po_none (po_some (pe_un un_negI pe_int))) (pa_cons (pe_callB c_len (by rfl) T.n_len (by decide +kernel) (pa_cons (pv 0) pa_nil)) pa_nil))) (pa_cons (pv 4) (pa_cons (pv 5) (pa_cons (pv 6) pa_nil)))))))))))))
theorem ok_law_k06 (T : Txt K mg cs) : FnOk P w K mg base CX0 4 T.f_law_k06 T.d_law_k06 (["_law_script"] : List Str) (sp_law_k06 K cs) := by
  refine T.F_law_k06.ok sc_law_k06 (fun vs H Q E h => len_law_k06 h) (fun cdv A outer s H vs Q E hr h => ⟨t_law_k06 K cs, ?_, pure_law_k06 (T_okSeveral T) h⟩)
  have hu := hu_of hr
  exact (pss_cons (ps_set (i := 1) sc_law_k06.nd rfl (Or.inl rfl) (pe_call (ok_l_row T) (hr.mono (by decide)) rfl T.g_l_row T.F_l_row.kp T.b_l_row .nil pass0 (pa_cons (pv 0) pa_nil)))
  (pss_cons (ps_set (i := 2) sc_law_k06.nd rfl (Or.inl rfl) (pe_callTy c_list (by rfl) T.n_list (by decide +kernel) (pa_cons (pv 1) pa_nil)))
  (pss_cons (ps_set (i := 3) sc_law_k06.nd rfl (Or.inl rfl) (pe_callB (cr_sum rfl) (by rfl) T.n_sum (by decide +kernel) (pa_cons (pv 0) pa_nil)))
  (pss_cons (ps_set (i := 4) sc_law_k06.nd rfl (Or.inl rfl) (pe_lst (pa_cons pe_int (pa_cons pe_int (pa_cons (pe_op op_modI (pe_op op_divI (pv 3) pe_int) pe_int) (pa_cons (pe_op op_addI pe_int (pe_op op_modI (pe_op op_divI (pv 3) pe_int) (pe_op op_addI (pe_op op_divI (pe_callB c_len (by rfl) T.n_len (by decide +kernel) (pa_cons (pv 1) pa_nil)) pe_int) pe_int))) (pa_cons pe_int pa_nil)))))))
  (pss_cons (ps_if (pt_cmpR op_ltI (pe_callB c_len (by rfl) T.n_len (by decide +kernel) (pa_cons (pv 1) pa_nil)) pe_int (nomark _)) (pss_one (ps_expr (pe_bm PySem.F.plainAttrs_list PySem.F.slot_list_append PySem.F.type_list_append mt_append (pv 4) (pa_cons (pe_op op_addI (pe_callB c_len (by rfl) T.n_len (by decide +kernel) (pa_cons (pv 1) pa_nil)) pe_int) pa_nil)))) pss_nil)
  (pss_cons (ps_for PassesOwn.never rfl (pi_list (pv 4)) (pg_name (i := 5) sc_law_k06.nd rfl (Or.inl rfl)) (pss_cons (ps_set (i := 6) sc_law_k06.nd rfl (Or.inl rfl) (pe_call (ok_several T) (hr.mono (by decide)) rfl T.g_several T.F_several.kp T.b_several .nil pass0 (pa_cons (pv 2) (pa_cons (pv 5) pa_nil))))
  (pss_cons (ps_if (PW.pt (pw_or (pt_not (pt_val (pe_call (ok_l_right_k06 T) (hr.mono (by decide)) rfl T.g_l_right_k06 T.F_l_right_k06.kp T.b_l_right_k06 .nil pass0 (pa_cons (pv 1) (pa_cons (pv 5) (pa_cons (pv 6) pa_nil)))))) (pw_or (pt_cmpR op_notBl (pe_meth (pv 6) T.cl_Several T.me_Several_shows (ok_Several_shows T) (hr.mono (by decide)) T.b_Several_shows .nil pass0 (pa_cons (pv 1) (pa_cons (pv 5) pa_nil))) pe_bl (nomark _)) (pw_or1 (pt_cmpR (op_neD hr.units) (pv 2) (pv 1) (nomark _)))))) (pss_one (ps_ret pe_bl)) pss_nil)
  (pss_cons (ps_set (i := 7) sc_law_k06.nd rfl (Or.inr rfl) (pe_revL (pv 1)))
  (pss_cons (ps_set (i := 8) sc_law_k06.nd rfl (Or.inl rfl) (pe_callB (cr_sum rfl) (by rfl) T.n_sum (by decide +kernel) (pa_cons (pe_lc (own := [("_law_first", 10), ("_law_count", 11)]) rfl sc_law_k06.nd (pi_list (pe_fld (pv 6) rfl)) (blkOk_by (own := [("_law_first", 10), ("_law_count", 11)]) (N := N_law_k06) (sc := defScope s_law_k06) (by decide +kernel)) (fun _ _ _ _ _ => (pg_tup (by rfl) (pgs_cons (pg_name (i := 10) sc_law_k06.nd rfl (Or.inl rfl)) (pgs_cons (pg_name (i := 11) sc_law_k06.nd rfl (Or.inl rfl)) pgs_nil)))) (fun _ _ _ _ _ => pts_nil) (fun _ _ _ _ _ => (pe_callB (cr_sum rfl) (by rfl) T.n_sum (by decide +kernel) (pa_cons (pe_slice sl_list (pv 7) (po_some (pv 10)) (po_some (pe_op op_addI (pv 10) (pv 11)))) pa_nil)))) pa_nil)))
  (pss_cons (ps_set (i := 9) sc_law_k06.nd rfl (Or.inl rfl) (pe_call (ok_l_bounds T) (hr.mono (by decide)) rfl T.g_l_bounds T.F_l_bounds.kp T.b_l_bounds .nil pass0 (pa_cons (pv 7) (pa_cons (pe_fld (pv 6) rfl) (pa_cons (pe_fld (pv 6) rfl) (pa_cons (pe_fld (pv 6) rfl) pa_nil))))))
  (pss_cons (ps_if (pt_cmpR op_ne (pe_meth (pv 6) T.cl_Several T.me_Several_shows (ok_Several_shows T) (hr.mono (by decide)) T.b_Several_shows .nil pass0 (pa_cons (pv 7) (pa_cons (pv 5) pa_nil))) (pe_and (pv 9) (pe_one (pe_cmpR op_leI (pe_op op_addI (pe_ix ix_list (pe_fld (pv 6) rfl) (pe_un un_negI pe_int) (fun _ _ => rfl)) (pe_op op_mulI (pe_fld (pv 6) rfl) (pv 5))) (pv 8) (nomark _)))) (nomark _)) (pss_one (ps_ret pe_bl)) pss_nil)
  (pss_cons (ps_expr (pe_bm PySem.F.plainAttrs_list PySem.F.slot_list_append PySem.F.type_list_append mt_append (pe_fld (pv 6) rfl) (pa_cons pe_int pa_nil)))
  (pss_one (ps_if (pt_cmpR op_notBl (pe_meth (pv 6) T.cl_Several T.me_Several_shows (ok_Several_shows T) (hr.mono (by decide)) T.b_Several_shows .nil pass0 (pa_cons (pv 1) (pa_cons (pv 5) pa_nil))) pe_bl (nomark _)) (pss_one (ps_ret pe_bl)) pss_nil))))))))))
  (pss_one (ps_ret (pe_cmpR (op_eqD hr.units) (pe_fld (pe_call (ok_several T) (hr.mono (by decide)) rfl T.g_several T.F_several.kp T.b_several .nil pass0 (pa_cons (pe_lst pa_nil) (pa_cons pe_int pa_nil))) rfl) (pe_lst pa_nil) (nomark _))))))))))
end
def txt_mk {K : PySem.W.Frag} {h : Heap} {mg : Str → Option Value} (X : K.In h) (G : h.Ns mainGlobals mg)
    {tk_FARTHEST : Tok}
    {C_Answer : Addr}
    {C_Best : Addr}
    {C_Several : Addr}
    {C_Steep : Addr}
    {f_Several_bounds : Addr} {od_Several_bounds an_Several_bounds : Option Addr} {sl_Several_bounds : Array (Option Value)} {oc_Several_bounds kV_Several_bounds dc_Several_bounds pm_Several_bounds cd_Several_bounds ct_Several_bounds : Value}
    {f_is_there : Addr} {od_is_there an_is_there : Option Addr} {sl_is_there : Array (Option Value)} {oc_is_there kV_is_there dc_is_there pm_is_there cd_is_there ct_is_there : Value}
    {f_Several_shows : Addr} {od_Several_shows an_Several_shows : Option Addr} {sl_Several_shows : Array (Option Value)} {oc_Several_shows kV_Several_shows dc_Several_shows pm_Several_shows cd_Several_shows ct_Several_shows : Value}
    {f_l_bounds : Addr} {od_l_bounds an_l_bounds : Option Addr} {sl_l_bounds : Array (Option Value)} {oc_l_bounds kV_l_bounds dc_l_bounds pm_l_bounds cd_l_bounds ct_l_bounds : Value}
    {f_l_numbers : Addr} {od_l_numbers an_l_numbers : Option Addr} {sl_l_numbers : Array (Option Value)} {oc_l_numbers kV_l_numbers dc_l_numbers pm_l_numbers cd_l_numbers ct_l_numbers : Value}
    {f_l_right_k06 : Addr} {od_l_right_k06 an_l_right_k06 : Option Addr} {sl_l_right_k06 : Array (Option Value)} {oc_l_right_k06 kV_l_right_k06 dc_l_right_k06 pm_l_right_k06 cd_l_right_k06 ct_l_right_k06 : Value}
    {f_l_row : Addr} {od_l_row an_l_row : Option Addr} {sl_l_row : Array (Option Value)} {oc_l_row kV_l_row dc_l_row pm_l_row cd_l_row ct_l_row : Value}
    {f_Several_init : Addr} {od_Several_init an_Several_init : Option Addr} {sl_Several_init : Array (Option Value)} {oc_Several_init kV_Several_init dc_Several_init pm_Several_init cd_Several_init ct_Several_init : Value}
    {f_added : Addr} {od_added an_added : Option Addr} {sl_added : Array (Option Value)} {oc_added kV_added dc_added pm_added cd_added ct_added : Value}
    {f_is_number : Addr} {od_is_number an_is_number : Option Addr} {sl_is_number : Array (Option Value)} {oc_is_number kV_is_number dc_is_number pm_is_number cd_is_number ct_is_number : Value}
    {f_asked_many : Addr} {od_asked_many an_asked_many : Option Addr} {sl_asked_many : Array (Option Value)} {oc_asked_many kV_asked_many dc_asked_many pm_asked_many cd_asked_many ct_asked_many : Value}
    {f_asked_row : Addr} {od_asked_row an_asked_row : Option Addr} {sl_asked_row : Array (Option Value)} {oc_asked_row kV_asked_row dc_asked_row pm_asked_row cd_asked_row ct_asked_row : Value}
    {f_bounds : Addr} {od_bounds an_bounds : Option Addr} {sl_bounds : Array (Option Value)} {oc_bounds kV_bounds dc_bounds pm_bounds cd_bounds ct_bounds : Value}
    {f_stretches_of : Addr} {od_stretches_of an_stretches_of : Option Addr} {sl_stretches_of : Array (Option Value)} {oc_stretches_of kV_stretches_of dc_stretches_of pm_stretches_of cd_stretches_of ct_stretches_of : Value}
    {f_several : Addr} {od_several an_several : Option Addr} {sl_several : Array (Option Value)} {oc_several kV_several dc_several pm_several cd_several ct_several : Value}
    {f_law_k06 : Addr} {od_law_k06 an_law_k06 : Option Addr} {sl_law_k06 : Array (Option Value)} {oc_law_k06 kV_law_k06 dc_law_k06 pm_law_k06 cd_law_k06 ct_law_k06 : Value}
    (z_all : PySem.W.nsIn K mainGlobals "all" = some none)
    (z_bool : PySem.W.nsIn K mainGlobals "bool" = some none)
    (z_enumerate : PySem.W.nsIn K mainGlobals "enumerate" = some none)
    (z_int : PySem.W.nsIn K mainGlobals "int" = some none)
    (z_isinstance : PySem.W.nsIn K mainGlobals "isinstance" = some none)
    (z_len : PySem.W.nsIn K mainGlobals "len" = some none)
    (z_list : PySem.W.nsIn K mainGlobals "list" = some none)
    (z_max : PySem.W.nsIn K mainGlobals "max" = some none)
    (z_min : PySem.W.nsIn K mainGlobals "min" = some none)
    (z_range : PySem.W.nsIn K mainGlobals "range" = some none)
    (z_sum : PySem.W.nsIn K mainGlobals "sum" = some none)
    (z_tuple : PySem.W.nsIn K mainGlobals "tuple" = some none)
    (c_FARTHEST : PySem.W.nsIn K mainGlobals "FARTHEST" = some (some (.int 1000000 tk_FARTHEST)))
    (a_Answer : PySem.W.nsIn K mainGlobals "Answer" = some (some (.ref C_Answer)))
    (a_Best : PySem.W.nsIn K mainGlobals "Best" = some (some (.ref C_Best)))
    (a_Several : PySem.W.nsIn K mainGlobals "Several" = some (some (.ref C_Several)))
    (a_Steep : PySem.W.nsIn K mainGlobals "Steep" = some (some (.ref C_Steep)))
    (pg_Several : PySem.W.plainGet K C_Several Str.empty = true)
    (hd_Several : PySem.W.hasDictIn K C_Several = true)
    (po_Several : PySem.W.plainOver K C_Several = true)
    (sa_Several : PySem.W.findIn K (.ref C_Several) "__setattr__" = some (some (.builtin "object.__setattr__")))
    (na_Several_ins : PySem.W.findIn K (.ref C_Several) "ins" = some none)
    (na_Several_outs : PySem.W.findIn K (.ref C_Several) "outs" = some none)
    (na_Several_price : PySem.W.findIn K (.ref C_Several) "price" = some none)
    (na_Several_stretches : PySem.W.findIn K (.ref C_Several) "stretches" = some none)
    (a_Several_bounds : PySem.W.findIn K (.ref C_Several) "bounds" = some (some (.ref f_Several_bounds)))
    (i_Several_bounds : PySem.W.isFn K (.ref f_Several_bounds) = true)
    (l_Several_bounds : K.lookup f_Several_bounds = some ⟨oc_Several_bounds, od_Several_bounds, .func (PySem.W.fnOf "bounds" "Several.bounds" (defArgs s_Several_bounds) (defBody s_Several_bounds) (defScope s_Several_bounds) .none kV_Several_bounds dc_Several_bounds pm_Several_bounds an_Several_bounds cd_Several_bounds ct_Several_bounds), sl_Several_bounds⟩)
    (c_Several_bounds : PySem.W.codeIn K cd_Several_bounds "Several.bounds" = true)
    (k_Several_bounds : PySem.W.keepIn K (.ref f_Several_bounds) = true)
    (a_is_there : PySem.W.nsIn K mainGlobals "is_there" = some (some (.ref f_is_there)))
    (l_is_there : K.lookup f_is_there = some ⟨oc_is_there, od_is_there, .func (PySem.W.fnOf "is_there" "is_there" (defArgs s_is_there) (defBody s_is_there) (defScope s_is_there) .none kV_is_there dc_is_there pm_is_there an_is_there cd_is_there ct_is_there), sl_is_there⟩)
    (c_is_there : PySem.W.codeIn K cd_is_there "is_there" = true)
    (k_is_there : PySem.W.keepIn K (.ref f_is_there) = true)
    (a_Several_shows : PySem.W.findIn K (.ref C_Several) "shows" = some (some (.ref f_Several_shows)))
    (i_Several_shows : PySem.W.isFn K (.ref f_Several_shows) = true)
    (l_Several_shows : K.lookup f_Several_shows = some ⟨oc_Several_shows, od_Several_shows, .func (PySem.W.fnOf "shows" "Several.shows" (defArgs s_Several_shows) (defBody s_Several_shows) (defScope s_Several_shows) .none kV_Several_shows dc_Several_shows pm_Several_shows an_Several_shows cd_Several_shows ct_Several_shows), sl_Several_shows⟩)
    (c_Several_shows : PySem.W.codeIn K cd_Several_shows "Several.shows" = true)
    (k_Several_shows : PySem.W.keepIn K (.ref f_Several_shows) = true)
    (a_l_bounds : PySem.W.nsIn K mainGlobals "_law_bounds" = some (some (.ref f_l_bounds)))
    (l_l_bounds : K.lookup f_l_bounds = some ⟨oc_l_bounds, od_l_bounds, .func (PySem.W.fnOf "_law_bounds" "_law_bounds" (defArgs s_l_bounds) (defBody s_l_bounds) (defScope s_l_bounds) .none kV_l_bounds dc_l_bounds pm_l_bounds an_l_bounds cd_l_bounds ct_l_bounds), sl_l_bounds⟩)
    (c_l_bounds : PySem.W.codeIn K cd_l_bounds "_law_bounds" = true)
    (k_l_bounds : PySem.W.keepIn K (.ref f_l_bounds) = true)
    (a_l_numbers : PySem.W.nsIn K mainGlobals "_law_numbers" = some (some (.ref f_l_numbers)))
    (l_l_numbers : K.lookup f_l_numbers = some ⟨oc_l_numbers, od_l_numbers, .func (PySem.W.fnOf "_law_numbers" "_law_numbers" (defArgs s_l_numbers) (defBody s_l_numbers) (defScope s_l_numbers) .none kV_l_numbers dc_l_numbers pm_l_numbers an_l_numbers cd_l_numbers ct_l_numbers), sl_l_numbers⟩)
    (c_l_numbers : PySem.W.codeIn K cd_l_numbers "_law_numbers" = true)
    (k_l_numbers : PySem.W.keepIn K (.ref f_l_numbers) = true)
    (a_l_right_k06 : PySem.W.nsIn K mainGlobals "_law_right" = some (some (.ref f_l_right_k06)))
    (l_l_right_k06 : K.lookup f_l_right_k06 = some ⟨oc_l_right_k06, od_l_right_k06, .func (PySem.W.fnOf "_law_right" "_law_right" (defArgs s_l_right_k06) (defBody s_l_right_k06) (defScope s_l_right_k06) .none kV_l_right_k06 dc_l_right_k06 pm_l_right_k06 an_l_right_k06 cd_l_right_k06 ct_l_right_k06), sl_l_right_k06⟩)
    (c_l_right_k06 : PySem.W.codeIn K cd_l_right_k06 "_law_right" = true)
    (k_l_right_k06 : PySem.W.keepIn K (.ref f_l_right_k06) = true)
    (a_l_row : PySem.W.nsIn K mainGlobals "_law_row" = some (some (.ref f_l_row)))
    (l_l_row : K.lookup f_l_row = some ⟨oc_l_row, od_l_row, .func (PySem.W.fnOf "_law_row" "_law_row" (defArgs s_l_row) (defBody s_l_row) (defScope s_l_row) .none kV_l_row dc_l_row pm_l_row an_l_row cd_l_row ct_l_row), sl_l_row⟩)
    (c_l_row : PySem.W.codeIn K cd_l_row "_law_row" = true)
    (k_l_row : PySem.W.keepIn K (.ref f_l_row) = true)
    (a_Several_init : PySem.W.findIn K (.ref C_Several) "__init__" = some (some (.ref f_Several_init)))
    (i_Several_init : PySem.W.isFn K (.ref f_Several_init) = true)
    (l_Several_init : K.lookup f_Several_init = some ⟨oc_Several_init, od_Several_init, .func (PySem.W.fnOf "__init__" "Several.__init__" (defArgs s_Several_init) (defBody s_Several_init) (defScope s_Several_init) .none kV_Several_init dc_Several_init pm_Several_init an_Several_init cd_Several_init ct_Several_init), sl_Several_init⟩)
    (c_Several_init : PySem.W.codeIn K cd_Several_init "Several.__init__" = true)
    (k_Several_init : PySem.W.keepIn K (.ref f_Several_init) = true)
    (a_added : PySem.W.nsIn K mainGlobals "added" = some (some (.ref f_added)))
    (l_added : K.lookup f_added = some ⟨oc_added, od_added, .func (PySem.W.fnOf "added" "added" (defArgs s_added) (defBody s_added) (defScope s_added) .none kV_added dc_added pm_added an_added cd_added ct_added), sl_added⟩)
    (c_added : PySem.W.codeIn K cd_added "added" = true)
    (k_added : PySem.W.keepIn K (.ref f_added) = true)
    (a_is_number : PySem.W.nsIn K mainGlobals "is_number" = some (some (.ref f_is_number)))
    (l_is_number : K.lookup f_is_number = some ⟨oc_is_number, od_is_number, .func (PySem.W.fnOf "is_number" "is_number" (defArgs s_is_number) (defBody s_is_number) (defScope s_is_number) .none kV_is_number dc_is_number pm_is_number an_is_number cd_is_number ct_is_number), sl_is_number⟩)
    (c_is_number : PySem.W.codeIn K cd_is_number "is_number" = true)
    (k_is_number : PySem.W.keepIn K (.ref f_is_number) = true)
    (a_asked_many : PySem.W.nsIn K mainGlobals "asked_many" = some (some (.ref f_asked_many)))
    (l_asked_many : K.lookup f_asked_many = some ⟨oc_asked_many, od_asked_many, .func (PySem.W.fnOf "asked_many" "asked_many" (defArgs s_asked_many) (defBody s_asked_many) (defScope s_asked_many) .none kV_asked_many dc_asked_many pm_asked_many an_asked_many cd_asked_many ct_asked_many), sl_asked_many⟩)
    (c_asked_many : PySem.W.codeIn K cd_asked_many "asked_many" = true)
    (k_asked_many : PySem.W.keepIn K (.ref f_asked_many) = true)
    (a_asked_row : PySem.W.nsIn K mainGlobals "asked_row" = some (some (.ref f_asked_row)))
    (l_asked_row : K.lookup f_asked_row = some ⟨oc_asked_row, od_asked_row, .func (PySem.W.fnOf "asked_row" "asked_row" (defArgs s_asked_row) (defBody s_asked_row) (defScope s_asked_row) .none kV_asked_row dc_asked_row pm_asked_row an_asked_row cd_asked_row ct_asked_row), sl_asked_row⟩)
    (c_asked_row : PySem.W.codeIn K cd_asked_row "asked_row" = true)
    (k_asked_row : PySem.W.keepIn K (.ref f_asked_row) = true)
    (a_bounds : PySem.W.nsIn K mainGlobals "bounds" = some (some (.ref f_bounds)))
    (l_bounds : K.lookup f_bounds = some ⟨oc_bounds, od_bounds, .func (PySem.W.fnOf "bounds" "bounds" (defArgs s_bounds) (defBody s_bounds) (defScope s_bounds) .none kV_bounds dc_bounds pm_bounds an_bounds cd_bounds ct_bounds), sl_bounds⟩)
    (c_bounds : PySem.W.codeIn K cd_bounds "bounds" = true)
    (k_bounds : PySem.W.keepIn K (.ref f_bounds) = true)
    (a_stretches_of : PySem.W.nsIn K mainGlobals "stretches_of" = some (some (.ref f_stretches_of)))
    (l_stretches_of : K.lookup f_stretches_of = some ⟨oc_stretches_of, od_stretches_of, .func (PySem.W.fnOf "stretches_of" "stretches_of" (defArgs s_stretches_of) (defBody s_stretches_of) (defScope s_stretches_of) .none kV_stretches_of dc_stretches_of pm_stretches_of an_stretches_of cd_stretches_of ct_stretches_of), sl_stretches_of⟩)
    (c_stretches_of : PySem.W.codeIn K cd_stretches_of "stretches_of" = true)
    (k_stretches_of : PySem.W.keepIn K (.ref f_stretches_of) = true)
    (a_several : PySem.W.nsIn K mainGlobals "several" = some (some (.ref f_several)))
    (l_several : K.lookup f_several = some ⟨oc_several, od_several, .func (PySem.W.fnOf "several" "several" (defArgs s_several) (defBody s_several) (defScope s_several) .none kV_several dc_several pm_several an_several cd_several ct_several), sl_several⟩)
    (c_several : PySem.W.codeIn K cd_several "several" = true)
    (k_several : PySem.W.keepIn K (.ref f_several) = true)
    (a_law_k06 : PySem.W.nsIn K mainGlobals "law" = some (some (.ref f_law_k06)))
    (l_law_k06 : K.lookup f_law_k06 = some ⟨oc_law_k06, od_law_k06, .func (PySem.W.fnOf "law" "law" (defArgs s_law_k06) (defBody s_law_k06) (defScope s_law_k06) .none kV_law_k06 dc_law_k06 pm_law_k06 an_law_k06 cd_law_k06 ct_law_k06), sl_law_k06⟩)
    (c_law_k06 : PySem.W.codeIn K cd_law_k06 "law" = true)
    (k_law_k06 : PySem.W.keepIn K (.ref f_law_k06) = true)
    (mk_Several : PySem.W.makesIn K C_Several = true)
    (kc_Several : PySem.W.keepIn K (.ref C_Several) = true)
    (x_xn : PySem.W.specialIn K (.builtin "object.__class__") "__get__" = some (some (.builtin "getset_descriptor.__get__")))
    (x_xt : PySem.W.takesIn K (.builtin "object.__class__") = some true)
    (x_xa_Several : PySem.W.findIn K (.ref C_Several) "__class__" = some (some (.builtin "object.__class__")))
    (x_xm_Several : PySem.W.mroIn K C_Several (.type "object") = some true)
    (x_xc_Answer : PySem.W.isClsIn K C_Answer = true)
    (x_xy_Answer : PySem.W.typeIn K (.ref C_Answer) = some (.type "type"))
    (x_xs_Several : PySem.W.subIn K (.ref C_Several) (.ref C_Several) = some true)
    (x_xk_Several_Answer : PySem.W.subIn K (.ref C_Several) (.ref C_Answer) = some true)
    (x_xc_Several : PySem.W.isClsIn K C_Several = true)
    (x_xy_Several : PySem.W.typeIn K (.ref C_Several) = some (.type "type"))
    (x_xk_Several_Several : PySem.W.subIn K (.ref C_Several) (.ref C_Several) = some true)
    (x_xc_Best : PySem.W.isClsIn K C_Best = true)
    (x_xy_Best : PySem.W.typeIn K (.ref C_Best) = some (.type "type"))
    (x_xk_Several_Best : PySem.W.subIn K (.ref C_Several) (.ref C_Best) = some false)
    (x_xc_Steep : PySem.W.isClsIn K C_Steep = true)
    (x_xy_Steep : PySem.W.typeIn K (.ref C_Steep) = some (.type "type"))
    (x_xk_Several_Steep : PySem.W.subIn K (.ref C_Several) (.ref C_Steep) = some false) : Txt K mg { Answer := C_Answer, Best := C_Best, Several := C_Several, Steep := C_Steep } :=
  { n_all := PySem.W.mg_none_of X G z_all,
    n_bool := PySem.W.mg_none_of X G z_bool,
    n_enumerate := PySem.W.mg_none_of X G z_enumerate,
    n_int := PySem.W.mg_none_of X G z_int,
    n_isinstance := PySem.W.mg_none_of X G z_isinstance,
    n_len := PySem.W.mg_none_of X G z_len,
    n_list := PySem.W.mg_none_of X G z_list,
    n_max := PySem.W.mg_none_of X G z_max,
    n_min := PySem.W.mg_none_of X G z_min,
    n_range := PySem.W.mg_none_of X G z_range,
    n_sum := PySem.W.mg_none_of X G z_sum,
    n_tuple := PySem.W.mg_none_of X G z_tuple,
    k_FARTHEST := tk_FARTHEST,
    g_FARTHEST := PySem.W.mg_of X G c_FARTHEST,
    g_Answer := PySem.W.mg_of X G a_Answer,
    g_Best := PySem.W.mg_of X G a_Best,
    g_Several := PySem.W.mg_of X G a_Several,
    g_Steep := PySem.W.mg_of X G a_Steep,
    cl_Several := ⟨pg_Several, hd_Several, po_Several, sa_Several⟩,
    na_Several_ins := na_Several_ins,
    na_Several_outs := na_Several_outs,
    na_Several_price := na_Several_price,
    na_Several_stretches := na_Several_stretches,
    f_Several_bounds := f_Several_bounds,
    d_Several_bounds := _,
    F_Several_bounds := fun_mk (st := s_Several_bounds) l_Several_bounds c_Several_bounds k_Several_bounds,
    b_Several_bounds := (fun_mk (st := s_Several_bounds) l_Several_bounds c_Several_bounds k_Several_bounds).binds (ps := (["self", "row"] : List Str)) fun _ _ _ _ _ _ us hl => match us, hl with | [_, _], _ => rfl,
    me_Several_bounds := ⟨a_Several_bounds, i_Several_bounds, k_Several_bounds⟩,
    f_is_there := f_is_there,
    d_is_there := _,
    F_is_there := fun_mk (st := s_is_there) l_is_there c_is_there k_is_there,
    b_is_there := (fun_mk (st := s_is_there) l_is_there c_is_there k_is_there).binds (ps := (["first", "many", "length"] : List Str)) fun _ _ _ _ _ _ us hl => match us, hl with | [_, _, _], _ => rfl,
    g_is_there := PySem.W.mg_of X G a_is_there,
    f_Several_shows := f_Several_shows,
    d_Several_shows := _,
    F_Several_shows := fun_mk (st := s_Several_shows) l_Several_shows c_Several_shows k_Several_shows,
    b_Several_shows := (fun_mk (st := s_Several_shows) l_Several_shows c_Several_shows k_Several_shows).binds (ps := (["self", "row", "many"] : List Str)) fun _ _ _ _ _ _ us hl => match us, hl with | [_, _, _], _ => rfl,
    me_Several_shows := ⟨a_Several_shows, i_Several_shows, k_Several_shows⟩,
    f_l_bounds := f_l_bounds,
    d_l_bounds := _,
    F_l_bounds := fun_mk (st := s_l_bounds) l_l_bounds c_l_bounds k_l_bounds,
    b_l_bounds := (fun_mk (st := s_l_bounds) l_l_bounds c_l_bounds k_l_bounds).binds (ps := (["_law_row_here", "_law_price", "_law_outs", "_law_ins"] : List Str)) fun _ _ _ _ _ _ us hl => match us, hl with | [_, _, _, _], _ => rfl,
    g_l_bounds := PySem.W.mg_of X G a_l_bounds,
    f_l_numbers := f_l_numbers,
    d_l_numbers := _,
    F_l_numbers := fun_mk (st := s_l_numbers) l_l_numbers c_l_numbers k_l_numbers,
    b_l_numbers := (fun_mk (st := s_l_numbers) l_l_numbers c_l_numbers k_l_numbers).binds (ps := (["_law_found"] : List Str)) fun _ _ _ _ _ _ us hl => match us, hl with | [_], _ => rfl,
    g_l_numbers := PySem.W.mg_of X G a_l_numbers,
    f_l_right_k06 := f_l_right_k06,
    d_l_right_k06 := _,
    F_l_right_k06 := fun_mk (st := s_l_right_k06) l_l_right_k06 c_l_right_k06 k_l_right_k06,
    b_l_right_k06 := (fun_mk (st := s_l_right_k06) l_l_right_k06 c_l_right_k06 k_l_right_k06).binds (ps := (["_law_row_here", "_law_many", "_law_found"] : List Str)) fun _ _ _ _ _ _ us hl => match us, hl with | [_, _, _], _ => rfl,
    g_l_right_k06 := PySem.W.mg_of X G a_l_right_k06,
    f_l_row := f_l_row,
    d_l_row := _,
    F_l_row := fun_mk (st := s_l_row) l_l_row c_l_row k_l_row,
    b_l_row := (fun_mk (st := s_l_row) l_l_row c_l_row k_l_row).binds (ps := (["_law_script"] : List Str)) fun _ _ _ _ _ _ us hl => match us, hl with | [_], _ => rfl,
    g_l_row := PySem.W.mg_of X G a_l_row,
    f_Several_init := f_Several_init,
    d_Several_init := _,
    F_Several_init := fun_mk (st := s_Several_init) l_Several_init c_Several_init k_Several_init,
    b_Several_init := (fun_mk (st := s_Several_init) l_Several_init c_Several_init k_Several_init).binds (ps := (["self", "stretches", "price", "outs", "ins"] : List Str)) fun _ _ _ _ _ _ us hl => match us, hl with | [_, _, _, _, _], _ => rfl,
    f_added := f_added,
    d_added := _,
    F_added := fun_mk (st := s_added) l_added c_added k_added,
    b_added := (fun_mk (st := s_added) l_added c_added k_added).binds (ps := (["row", "best"] : List Str)) fun _ _ _ _ _ _ us hl => match us, hl with | [_, _], _ => rfl,
    g_added := PySem.W.mg_of X G a_added,
    f_is_number := f_is_number,
    d_is_number := _,
    F_is_number := fun_mk (st := s_is_number) l_is_number c_is_number k_is_number,
    b_is_number := (fun_mk (st := s_is_number) l_is_number c_is_number k_is_number).binds (ps := (["thing"] : List Str)) fun _ _ _ _ _ _ us hl => match us, hl with | [_], _ => rfl,
    g_is_number := PySem.W.mg_of X G a_is_number,
    f_asked_many := f_asked_many,
    d_asked_many := _,
    F_asked_many := fun_mk (st := s_asked_many) l_asked_many c_asked_many k_asked_many,
    b_asked_many := (fun_mk (st := s_asked_many) l_asked_many c_asked_many k_asked_many).binds (ps := (["many"] : List Str)) fun _ _ _ _ _ _ us hl => match us, hl with | [_], _ => rfl,
    g_asked_many := PySem.W.mg_of X G a_asked_many,
    f_asked_row := f_asked_row,
    d_asked_row := _,
    F_asked_row := fun_mk (st := s_asked_row) l_asked_row c_asked_row k_asked_row,
    b_asked_row := (fun_mk (st := s_asked_row) l_asked_row c_asked_row k_asked_row).binds (ps := (["row"] : List Str)) fun _ _ _ _ _ _ us hl => match us, hl with | [_], _ => rfl,
    g_asked_row := PySem.W.mg_of X G a_asked_row,
    f_bounds := f_bounds,
    d_bounds := _,
    F_bounds := fun_mk (st := s_bounds) l_bounds c_bounds k_bounds,
    b_bounds := (fun_mk (st := s_bounds) l_bounds c_bounds k_bounds).binds (ps := (["row", "price"] : List Str)) fun _ _ _ _ _ _ us hl => match us, hl with | [_, _], _ => rfl,
    g_bounds := PySem.W.mg_of X G a_bounds,
    f_stretches_of := f_stretches_of,
    d_stretches_of := _,
    F_stretches_of := fun_mk (st := s_stretches_of) l_stretches_of c_stretches_of k_stretches_of,
    b_stretches_of := (fun_mk (st := s_stretches_of) l_stretches_of c_stretches_of k_stretches_of).binds (ps := (["levels", "length"] : List Str)) fun _ _ _ _ _ _ us hl => match us, hl with | [_, _], _ => rfl,
    g_stretches_of := PySem.W.mg_of X G a_stretches_of,
    f_several := f_several,
    d_several := _,
    F_several := fun_mk (st := s_several) l_several c_several k_several,
    b_several := (fun_mk (st := s_several) l_several c_several k_several).binds (ps := (["row", "many"] : List Str)) fun _ _ _ _ _ _ us hl => match us, hl with | [_, _], _ => rfl,
    g_several := PySem.W.mg_of X G a_several,
    f_law_k06 := f_law_k06,
    d_law_k06 := _,
    F_law_k06 := fun_mk (st := s_law_k06) l_law_k06 c_law_k06 k_law_k06,
    b_law_k06 := (fun_mk (st := s_law_k06) l_law_k06 c_law_k06 k_law_k06).binds (ps := (["_law_script"] : List Str)) fun _ _ _ _ _ _ us hl => match us, hl with | [_], _ => rfl,
    g_law_k06 := PySem.W.mg_of X G a_law_k06,
    mk_Several := ⟨mk_Several, a_Several_init, i_Several_init, kc_Several⟩,
    xn := x_xn,
    xt := x_xt,
    xa_Several := x_xa_Several,
    xm_Several := x_xm_Several,
    xc_Answer := x_xc_Answer,
    xy_Answer := x_xy_Answer,
    xs_Several := x_xs_Several,
    xk_Several_Answer := x_xk_Several_Answer,
    xc_Several := x_xc_Several,
    xy_Several := x_xy_Several,
    xk_Several_Several := x_xk_Several_Several,
    xc_Best := x_xc_Best,
    xy_Best := x_xy_Best,
    xk_Several_Best := x_xk_Several_Best,
    xc_Steep := x_xc_Steep,
    xy_Steep := x_xy_Steep,
    xk_Several_Steep := x_xk_Several_Steep }
theorem all_mk {l : PySem.W.OpenLaw} {w : World} {K : PySem.W.Frag} {mg : Str → Option Value} {fa : Addr} {cs : Cs} (T : Txt K mg cs) (hfa : mg "law" = some (.ref fa)) :
    ∃ fd : FuncData, (∀ (s : Shared) (v : Value), BindsTo s fd ⟨[v], []⟩ [("_law_script", v)]) ∧ ∀ base : Heap, K.In base → base.Ns mainGlobals mg → FnOk l.prog w K mg base CX0 4 fa fd (["_law_script"] : List Str) (sp_law_k06 K cs) := by
  have e := hfa.symm.trans T.g_law_k06
  cases e
  refine ⟨T.d_law_k06, fun s v => ?_, fun base _ _ => ok_law_k06 T⟩
  obtain ⟨oc, od, kV, doc, pm, an, cdv, ct, osl, e, _, _⟩ := T.F_law_k06.ex
  rw [e]
  exact .of_eq rfl
theorem walk {l : PySem.W.OpenLaw} {q : Program} {loose : List Str} {XP : (Str → Option Value) → Heap → Prop} {YP : World → Heap → Prop} {d : DefRec} {K : Params → PySem.W.Frag} (hn : l.most = some 63) (hdf : d.params.defaults = [])
    (hY : ∀ (w : World) (h : Heap), YP w h → (K w.params).In h)
    (F : ∀ (w : World) (mg : Str → Option Value) (fa : Addr) (h : Heap), (K w.params).In h → h.Ns mainGlobals mg → mg d.name = some (.ref fa) →
      ∃ fd : FuncData, (∀ (s : Shared) (u : Value), BindsTo s fd ⟨[u], []⟩ [("_law_script", u)]) ∧ ∀ base : Heap, (K w.params).In base → base.Ns mainGlobals mg → FnOk l.prog w (K w.params) mg base CX0 4 fa fd (["_law_script"] : List Str) (spLaw (K w.params))) :
    PySem.W.WalkO q loose XP YP l.row.toRowW d [] (fun f vs => PySem.call f vs) :=
  L2.walk_of (n := 63) (k := 4) (x := "_law_script") (CX := fun _ => CX0) (sp := fun w => spLaw (K w.params)) hn (by decide) hdf ⟨rfl, by decide, by decide⟩ hY F (fun _ _ a ns hl _ hS => ⟨a, ns, rfl, hS, hl, fun _ => rfl⟩) fun _ _ _ _ _ z => z
end Bs
open PySem PySem.W PyProof.Rows
set_option maxRecDepth 100000 in
set_option maxHeartbeats 0 in
theorem PySem.Challenge.cw_beststretch_k06_whole_several_holds : PySem.Challenge.rw_beststretch_k06_whole_several.Holds := by
  w_on; o_law; k_head; (case hw => w_witness2)
  k_fill
  refine Bs.walk (l := PySem.Challenge.rw_beststretch_k06_whole_several) rfl rfl (fun w h Y => PySem.W.kIn_of Y) ?F
  case F =>
    intro w mg fa h KX G hmg
    refine' Bs.all_mk (Bs.txt_mk KX G ?z_all ?z_bool ?z_enumerate ?z_int ?z_isinstance ?z_len ?z_list ?z_max ?z_min ?z_range ?z_sum ?z_tuple ?c_FARTHEST ?a_Answer ?a_Best ?a_Several ?a_Steep ?pg_Several ?hd_Several ?po_Several ?sa_Several ?na_Several_ins ?na_Several_outs ?na_Several_price ?na_Several_stretches ?a_Several_bounds ?i_Several_bounds ?l_Several_bounds ?c_Several_bounds ?k_Several_bounds ?a_is_there ?l_is_there ?c_is_there ?k_is_there ?a_Several_shows ?i_Several_shows ?l_Several_shows ?c_Several_shows ?k_Several_shows ?a_l_bounds ?l_l_bounds ?c_l_bounds ?k_l_bounds ?a_l_numbers ?l_l_numbers ?c_l_numbers ?k_l_numbers ?a_l_right_k06 ?l_l_right_k06 ?c_l_right_k06 ?k_l_right_k06 ?a_l_row ?l_l_row ?c_l_row ?k_l_row ?a_Several_init ?i_Several_init ?l_Several_init ?c_Several_init ?k_Several_init ?a_added ?l_added ?c_added ?k_added ?a_is_number ?l_is_number ?c_is_number ?k_is_number ?a_asked_many ?l_asked_many ?c_asked_many ?k_asked_many ?a_asked_row ?l_asked_row ?c_asked_row ?k_asked_row ?a_bounds ?l_bounds ?c_bounds ?k_bounds ?a_stretches_of ?l_stretches_of ?c_stretches_of ?k_stretches_of ?a_several ?l_several ?c_several ?k_several ?a_law_k06 ?l_law_k06 ?c_law_k06 ?k_law_k06 ?mk_Several ?kc_Several ?x_xn ?x_xt ?x_xa_Several ?x_xm_Several ?x_xc_Answer ?x_xy_Answer ?x_xs_Several ?x_xk_Several_Answer ?x_xc_Several ?x_xy_Several ?x_xk_Several_Several ?x_xc_Best ?x_xy_Best ?x_xk_Several_Best ?x_xc_Steep ?x_xy_Steep ?x_xk_Several_Steep) hmg
    (case z_all => k_is)
    (case z_bool => k_is)
    (case z_enumerate => k_is)
    (case z_int => k_is)
    (case z_isinstance => k_is)
    (case z_len => k_is)
    (case z_list => k_is)
    (case z_max => k_is)
    (case z_min => k_is)
    (case z_range => k_is)
    (case z_sum => k_is)
    (case z_tuple => k_is)
    (case c_FARTHEST => k_is)
    (case a_Answer => k_is)
    (case a_Best => k_is)
    (case a_Several => k_is)
    (case a_Steep => k_is)
    (case pg_Several => k_is)
    (case hd_Several => k_is)
    (case po_Several => k_is)
    (case sa_Several => k_is)
    (case na_Several_ins => k_is)
    (case na_Several_outs => k_is)
    (case na_Several_price => k_is)
    (case na_Several_stretches => k_is)
    (case a_Several_bounds => k_is)
    (case i_Several_bounds => k_is)
    (case l_Several_bounds => k_is)
    (case c_Several_bounds => k_is)
    (case k_Several_bounds => k_is)
    (case a_is_there => k_is)
    (case l_is_there => k_is)
    (case c_is_there => k_is)
    (case k_is_there => k_is)
    (case a_Several_shows => k_is)
    (case i_Several_shows => k_is)
    (case l_Several_shows => k_is)
    (case c_Several_shows => k_is)
    (case k_Several_shows => k_is)
    (case a_l_bounds => k_is)
    (case l_l_bounds => k_is)
    (case c_l_bounds => k_is)
    (case k_l_bounds => k_is)
    (case a_l_numbers => k_is)
    (case l_l_numbers => k_is)
    (case c_l_numbers => k_is)
    (case k_l_numbers => k_is)
    (case a_l_right_k06 => k_is)
    (case l_l_right_k06 => k_is)
    (case c_l_right_k06 => k_is)
    (case k_l_right_k06 => k_is)
    (case a_l_row => k_is)
    (case l_l_row => k_is)
    (case c_l_row => k_is)
    (case k_l_row => k_is)
    (case a_Several_init => k_is)
    (case i_Several_init => k_is)
    (case l_Several_init => k_is)
    (case c_Several_init => k_is)
    (case k_Several_init => k_is)
    (case a_added => k_is)
    (case l_added => k_is)
    (case c_added => k_is)
    (case k_added => k_is)
    (case a_is_number => k_is)
    (case l_is_number => k_is)
    (case c_is_number => k_is)
    (case k_is_number => k_is)
    (case a_asked_many => k_is)
    (case l_asked_many => k_is)
    (case c_asked_many => k_is)
    (case k_asked_many => k_is)
    (case a_asked_row => k_is)
    (case l_asked_row => k_is)
    (case c_asked_row => k_is)
    (case k_asked_row => k_is)
    (case a_bounds => k_is)
    (case l_bounds => k_is)
    (case c_bounds => k_is)
    (case k_bounds => k_is)
    (case a_stretches_of => k_is)
    (case l_stretches_of => k_is)
    (case c_stretches_of => k_is)
    (case k_stretches_of => k_is)
    (case a_several => k_is)
    (case l_several => k_is)
    (case c_several => k_is)
    (case k_several => k_is)
    (case a_law_k06 => k_is)
    (case l_law_k06 => k_is)
    (case c_law_k06 => k_is)
    (case k_law_k06 => k_is)
    (case mk_Several => k_is)
    (case kc_Several => k_is)
    (case x_xn => k_is)
    (case x_xt => k_is)
    (case x_xa_Several => k_is)
    (case x_xm_Several => k_is)
    (case x_xc_Answer => k_is)
    (case x_xy_Answer => k_is)
    (case x_xs_Several => k_is)
    (case x_xk_Several_Answer => k_is)
    (case x_xc_Several => k_is)
    (case x_xy_Several => k_is)
    (case x_xk_Several_Several => k_is)
    (case x_xc_Best => k_is)
    (case x_xy_Best => k_is)
    (case x_xk_Several_Best => k_is)
    (case x_xc_Steep => k_is)
    (case x_xy_Steep => k_is)
    (case x_xk_Several_Steep => k_is)
