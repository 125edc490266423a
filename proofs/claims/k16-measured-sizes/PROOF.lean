import PyProof.Rows.All
import Wide.All
import OpenK.AllK
import Wide.FinOn
import HandS.ForMost
import HandS.Flow
import HandS.IsInst
import HandS.Wide
import HandS.Walk
import PyProof.Rows.IntBool
import PySem.Challenge.RW_drawnanew_k16_measured_sizes
set_option Elab.async false
set_option linter.all false
set_option maxRecDepth 100000
set_option maxHeartbeats 4000000
/-! XBase: readings that compute, over the hand layer; the heap cut into a part that only grows and cells that change. -/
namespace XL
open PySem PySem.Spec PyProof.Rows L2
abbrev St := L2.St

/-! ### a reading may be exchanged for a stronger one -/
theorem pe_str {X : Cx} {e : Expr} {t t' : TE} (h : PE X e t) (k : ∀ σ H Q, t' σ H Q → t σ H Q) : PE X e t' := ⟨fun pins s σ H Q I q => h.run pins s σ H Q I (k σ H Q q)⟩
theorem pt_str {X : Cx} {e : Expr} {t t' : TT} (h : PT X e t) (k : ∀ σ H Q, t' σ H Q → t σ H Q) : PT X e t' := ⟨fun pins s σ H Q I q => h.run pins s σ H Q I (k σ H Q q)⟩
theorem ps_str {X : Cx} {e : Stmt} {t t' : TS} (h : PS X e t) (k : ∀ D σ H, t' D σ H → t D σ H) : PS X e t' := ⟨fun pins s σ H D I q => h.run pins s σ H D I (k D σ H q)⟩
theorem or_str {X : Cx} {f : Value → Value → Sem Value} {r r' : R2} (h : OpR X f r) (k : ∀ x y H Q, r' x y H Q → r x y H Q) : OpR X f r' := fun pins s σ H x y v u Q I rx ry q => h pins s σ H x y v u Q I rx ry (k x y H Q q)
theorem cr_str {X : Cx} {f : Value} {r r' : List V → Hp → VK → Prop} (h : CallR X f r) (k : ∀ xs H Q, r' xs H Q → r xs H Q) : CallR X f r' := fun pins s σ H xs us Q I rx q => h pins s σ H xs us Q I rx (k xs H Q q)
theorem OpR.or {X : Cx} {f : Value → Value → Sem Value} {r r' : R2} (h : OpR X f r) (h' : OpR X f r') : OpR X f (fun x y H Q => r x y H Q ∨ r' x y H Q) := by
  intro pins s σ H x y v u Q I rx ry q
  rcases q with q | q
  · exact h pins s σ H x y v u Q I rx ry q
  · exact h' pins s σ H x y v u Q I rx ry q

/-! ### names -/
def nth : St → Nat → Option V
  | [], _ => none
  | x :: _, 0 => x
  | _ :: r, n + 1 => nth r n
theorem nth_get : ∀ {σ : St} {i : Nat} {v : V}, nth σ i = some v → σ[i]? = some (some v)
  | [], _, _, h => nomatch h
  | _ :: _, 0, _, h => congrArg some h
  | _ :: r, n + 1, _, h => by
    rw [List.getElem?_cons_succ]
    exact nth_get (σ := r) h
def xVar (i : Nat) : TE := fun σ H Q => match nth σ i with
  | some v => Q v H
  | none => False
section
variable {X : Cx} {a b c : Expr} {ta tb tc : TE} {pos : Pos} {tA tB' : TT} {rest : List Expr}
theorem xv (i : Nat) {x : Str} {pos : Pos} (hN : X.N[i]? = some x := by rfl) (hv : Vis X.env.scope x := by first | exact Or.inl rfl | exact Or.inr (Or.inl rfl) | exact Or.inr (Or.inr rfl)) (hd : (x == ("__debug__" : Str)) = false := by decide)
    (hcd : (x == ("__classdict__" : Str)) = false := by decide) : PE X (.Name x pos) (xVar i) := pe_str (pe_var hN hv hd hcd) fun σ H Q h => by
  unfold xVar at h
  cases e : nth σ i with
  | none => rw [e] at h; exact h.elim
  | some v => rw [e] at h; exact ⟨v, nth_get e, h⟩

/-! ### arithmetic -/
theorem op_mul_ib : OpR X (binaryOp .Mult) (fun x y H Q => ∃ i k, x = .int i ∧ y = .bl k ∧ Q (.int (i * b2i k)) H) := by
  intro pins s σ H x y v u Q I rx ry h
  obtain ⟨i, k, rfl, rfl, q⟩ := h
  obtain ⟨t, rfl⟩ := rx
  cases ry
  refine PySem.IntBool.mul_int_bool ?_
  have e : (if k = true then (1 : Int) else 0) = b2i k := by cases k <;> rfl
  rw [e]
  exact ⟨.int (i * b2i k), H, I.tok _, ⟨_, rfl⟩, q⟩
def yAdd : R2 := fun x y H Q => match x, y with
  | .int i, .int j => Q (.int (i + j)) H
  | .int i, .bl k => Q (.int (i + b2i k)) H
  | .str a, .str b => a.length + b.length ≤ sizeLine ∧ ∀ r : Str, r = a ++ b → Q (.str r) H
  | .ref l, .ref b => rCat (.ref l) (.ref b) H Q
  | _, _ => False
theorem op_addY : OpR X (binaryOp .Add) yAdd := by
  refine or_str (OpR.or (op_add (X := X)) (OpR.or (op_add_ib (X := X)) (OpR.or (op_add_str (X := X)) (op_cat (X := X))))) fun x y H Q h => ?_
  unfold yAdd at h
  split at h
  · exact .inl ⟨_, _, rfl, rfl, h⟩
  · exact .inr (.inl ⟨_, _, rfl, rfl, h⟩)
  · exact .inr (.inr (.inl ⟨_, _, rfl, rfl, h.1, h.2 _ rfl⟩))
  · exact .inr (.inr (.inr h))
  · exact h.elim
def ySub : R2 := fun x y H Q => match x, y with
  | .int i, .int j => Q (.int (i - j)) H
  | _, _ => False
theorem op_subY : OpR X (binaryOp .Sub) ySub := by
  refine or_str (op_sub (X := X)) fun x y H Q h => ?_
  unfold ySub at h
  split at h
  · exact ⟨_, _, rfl, rfl, h⟩
  · exact h.elim
def yMul : R2 := fun x y H Q => match x, y with
  | .int i, .int j => CMul i j ∧ Q (.int (i * j)) H
  | .int i, .bl k => Q (.int (i * b2i k)) H
  | .ref l, .int k => rRep (.ref l) (.int k) H Q
  | _, _ => False
theorem op_mulY : OpR X (binaryOp .Mult) yMul := by
  refine or_str (OpR.or (op_mul (X := X)) (OpR.or (op_mul_ib (X := X)) (op_rep (X := X)))) fun x y H Q h => ?_
  unfold yMul at h
  split at h
  · exact .inl ⟨_, _, rfl, rfl, h.1, h.2⟩
  · exact .inr (.inl ⟨_, _, rfl, rfl, h⟩)
  · exact .inr (.inr h)
  · exact h.elim
def yMod : R2 := fun x y H Q => match x, y with
  | .int i, .int j => 0 < j ∧ ∀ r : Int, r = i % j → 0 ≤ r → r < j → Q (.int r) H
  | _, _ => False
theorem op_modY : OpR X (binaryOp .Mod) yMod := by
  refine or_str (op_mod (X := X)) fun x y H Q h => ?_
  unfold yMod at h
  split at h
  · exact ⟨_, _, rfl, rfl, h.1, h.2 _ rfl (Int.emod_nonneg _ (by have := h.1; omega)) (Int.emod_lt_of_pos _ h.1)⟩
  · exact h.elim
def yDiv : R2 := fun x y H Q => match x, y with
  | .int i, .int j => (0 < j ∧ j < 1073741824) ∧ ∀ r : Int, r = i / j → (0 ≤ i → 0 ≤ r) → Q (.int r) H
  | _, _ => False
theorem op_divY : OpR X (binaryOp .FloorDiv) yDiv := by
  refine or_str (op_fdiv (X := X)) fun x y H Q h => ?_
  unfold yDiv at h
  split at h
  · exact ⟨_, _, rfl, rfl, h.1, h.2 _ rfl (fun h0 => Int.ediv_nonneg h0 (by have := h.1.1; omega))⟩
  · exact h.elim
def yPow : R2 := fun x y H Q => match x, y with
  | .int i, .int j => CPow i j ∧ ∀ r : Int, r = i ^ j.toNat → Q (.int r) H
  | _, _ => False
theorem op_powY : OpR X (binaryOp .Pow) yPow := by
  refine or_str (op_pow (X := X)) fun x y H Q h => ?_
  unfold yPow at h
  split at h
  · exact ⟨_, _, rfl, rfl, h.1, h.2 _ rfl⟩
  · exact h.elim

/-! ### comparisons -/
def yCmp (p : Int → Int → Bool) : R2 := fun x y H Q => match x, y with
  | .int i, .int j => Q (.bl (p i j)) H
  | _, _ => False
theorem yCmp_rI {p : Int → Int → Bool} {x y : V} {H : Hp} {Q : VK} (h : yCmp p x y H Q) : rI0 (fun i j => .bl (p i j)) x y H Q := by
  unfold yCmp at h
  split at h
  · exact ⟨_, _, rfl, rfl, h⟩
  · exact h.elim
theorem op_ltY : OpR X (compareOp .Lt) (yCmp fun i j => decide (i < j)) := or_str (op_lt (X := X)) fun _ _ _ _ h => yCmp_rI h
theorem op_leY : OpR X (compareOp .LtE) (yCmp fun i j => decide (i ≤ j)) := or_str (op_le (X := X)) fun _ _ _ _ h => yCmp_rI h
theorem op_gtY : OpR X (compareOp .Gt) (yCmp fun i j => decide (j < i)) := or_str (op_gt (X := X)) fun _ _ _ _ h => yCmp_rI h
theorem op_geY : OpR X (compareOp .GtE) (yCmp fun i j => decide (j ≤ i)) := or_str (op_ge (X := X)) fun _ _ _ _ h => yCmp_rI h
def yEq (K : PySem.W.Frag) : R2 := fun x y H Q => match x, y with
  | .int i, .int j => Q (.bl (decide (i = j))) H
  | .str i, .str j => Q (.bl (decide (i = j))) H
  | .bl i, .bl j => Q (.bl (decide (i = j))) H
  | .ref a, .ref b => rEqD K (.ref a) (.ref b) H Q
  | x, y => scal x y = true ∧ Q (.bl (decide (x = y))) H
def yNe (K : PySem.W.Frag) : R2 := fun x y H Q => match x, y with
  | .int i, .int j => Q (.bl (!decide (i = j))) H
  | .str i, .str j => Q (.bl (!decide (i = j))) H
  | .bl i, .bl j => Q (.bl (!decide (i = j))) H
  | .ref a, .ref b => rNeD K (.ref a) (.ref b) H Q
  | x, y => scal x y = true ∧ Q (.bl (!decide (x = y))) H
theorem deci {i j : Int} : decide (V.int i = V.int j) = decide (i = j) := by by_cases h : i = j <;> simp [h]
theorem decs {i j : Str} : decide (V.str i = V.str j) = decide (i = j) := by by_cases h : i = j <;> simp [h]
theorem decb {i j : Bool} : decide (V.bl i = V.bl j) = decide (i = j) := by by_cases h : i = j <;> simp [h]
theorem op_eqY (hu : X.A.units + 64 < cLine) : OpR X (compareOp .Eq) (yEq X.K) := by
  refine or_str (OpR.or (op_eq (X := X)) (op_eqD hu)) fun x y H Q h => ?_
  unfold yEq at h
  split at h
  · exact .inl ⟨rfl, by rw [deci]; exact h⟩
  · exact .inl ⟨rfl, by rw [decs]; exact h⟩
  · exact .inl ⟨rfl, by rw [decb]; exact h⟩
  · exact .inr h
  · exact .inl h
theorem op_neY (hu : X.A.units + 64 < cLine) : OpR X (compareOp .NotEq) (yNe X.K) := by
  refine or_str (OpR.or (op_ne (X := X)) (op_neD hu)) fun x y H Q h => ?_
  unfold yNe at h
  split at h
  · exact .inl ⟨rfl, by rw [deci]; exact h⟩
  · exact .inl ⟨rfl, by rw [decs]; exact h⟩
  · exact .inl ⟨rfl, by rw [decb]; exact h⟩
  · exact .inr h
  · exact .inl h

/-! ### tests -/
/-- a bool as a test -/
def xB (t : TE) : TT := fun σ H Q => t σ H fun x H1 => match x with
  | .bl c => Q c H1
  | _ => False
theorem pe_mono {X : Cx} {e : Expr} {t : TE} (_h : PE X e t) : True := trivial
theorem xt_cmp {op : CmpOp} {r : R2} (ho : OpR X (compareOp op) r) (ha : PE X a ta) (hb : PE X b tb) (hm : behindInMarks op b = false) : PT X (.Compare a [op] [b] pos) (xB (tOp r ta tb)) := by
  refine ⟨fun pins s σ H Q I h => ?_⟩
  refine wpAny_isTrue_Compare1 (thn (ha.run pins s σ H _ I h) fun v s1 ⟨x, H1, I1, r1, q1⟩ => thn (hb.run pins s1 σ H1 _ I1 q1) fun u s2 ⟨y, H2, I2, r2, q2⟩ =>
    thn (ho pins s2 σ H2 x y v u _ I2 r1 r2 q2) fun c s3 ⟨z, H3, I3, r3, q3⟩ => ?_) hm
  cases z with
  | bl k =>
    cases r3
    exact wpAny_truthy_bool ⟨H3, I3, q3⟩
  | _ => exact False.elim q3
theorem xt_val {e : Expr} {t : TE} (h : PE X e t) (he : ∀ whole, isTrue e X.env whole = (do let v ← whole; standAt e.pos; holding [v] (truthy v)) := by intro _; rfl) : PT X e (xB t) := by
  refine ⟨fun pins s σ H Q I hw => ?_⟩
  refine isTrue_plain (thn (h.run pins s σ H _ I hw) fun v s1 ⟨x, H1, I1, r1, q1⟩ => ?_) (he _)
  cases x with
  | bl k =>
    cases r1
    exact wpAny_truthy_bool ⟨H1, I1, q1⟩
  | _ => exact False.elim q1
/-- the truth of a value -/
def yTru (K : PySem.W.Frag) (x : V) (H : Hp) (Q : Bool → Hp → Prop) : Prop := match x with
  | .bl c => Q c H
  | .int i => Q (i != 0) H
  | .non => Q false H
  | x => ∃ k, TruV K x H k ∧ Q k H
def xTru (K : PySem.W.Frag) (t : TE) : TT := fun σ H Q => t σ H fun x H1 => yTru K x H1 Q
theorem xt_tru (ha : PE X a ta) (he : ∀ whole, isTrue a X.env whole = (do let v ← whole; standAt a.pos; holding [v] (truthy v)) := by intro _; rfl) : PT X a (xTru X.K ta) := by
  have hq : PE X a (fun σ H Q => ta σ H Q) := ha
  refine ⟨fun pins s σ H Q I hw => ?_⟩
  refine isTrue_plain (thn (ha.run pins s σ H _ I hw) fun v s1 ⟨x, H1, I1, r1, q1⟩ => ?_) (he _)
  have q2 : ∃ k, TruV X.K x H1 k ∧ Q k H1 := by
    change yTru X.K x H1 Q at q1
    unfold yTru at q1
    split at q1
    · exact ⟨_, rfl, q1⟩
    · exact ⟨_, rfl, q1⟩
    · exact ⟨_, rfl, q1⟩
    · exact q1
  exact tru_ok pins s1 σ H1 x v Q I1 r1 q2
def xAnd (t u : TT) : TT := fun σ H Q => t σ H fun c H1 => (c = true → u σ H1 Q) ∧ (c = false → Q false H1)
def xOr (t u : TT) : TT := fun σ H Q => t σ H fun c H1 => (c = true → Q true H1) ∧ (c = false → u σ H1 Q)
theorem xw_and (ha : PT X a tA) (hb : PW X (.BoolOp .And (b :: rest) pos) tB') : PW X (.BoolOp .And (a :: b :: rest) pos) (xAnd tA tB') := by
  refine ⟨fun wh pins s0 σ H Q J h => ?_⟩
  refine isTrue_and (thn (ha.run pins s0 σ H _ J h) fun k s2 ⟨H2, J2, q2⟩ => ?_)
  cases k with
  | true => exact hb.run wh pins s2 σ H2 Q J2 (q2.1 rfl)
  | false => exact ⟨H2, J2, q2.2 rfl⟩
theorem xw_or (ha : PT X a tA) (hb : PW X (.BoolOp .Or (b :: rest) pos) tB') : PW X (.BoolOp .Or (a :: b :: rest) pos) (xOr tA tB') := by
  refine ⟨fun wh pins s0 σ H Q J h => ?_⟩
  refine isTrue_or (thn (ha.run pins s0 σ H _ J h) fun k s2 ⟨H2, J2, q2⟩ => ?_)
  cases k with
  | true => exact ⟨H2, J2, q2.1 rfl⟩
  | false => exact hb.run wh pins s2 σ H2 Q J2 (q2.2 rfl)
/-- and, or, not as values: of bools -/
def xAndV (ta tb : TE) : TE := fun σ H Q => ta σ H fun x H1 => match x with
  | .bl c => (c = true → tb σ H1 Q) ∧ (c = false → Q (.bl false) H1)
  | _ => False
def xOrV (ta tb : TE) : TE := fun σ H Q => ta σ H fun x H1 => match x with
  | .bl c => (c = true → Q (.bl true) H1) ∧ (c = false → tb σ H1 Q)
  | _ => False
def xNotV (ta : TE) : TE := fun σ H Q => ta σ H fun x H1 => match x with
  | .bl c => Q (.bl (!c)) H1
  | _ => False
theorem xe_and (ha : PE X a ta) (hb : PE X (.BoolOp .And (b :: rest) pos) tb) : PE X (.BoolOp .And (a :: b :: rest) pos) (xAndV ta tb) := by
  refine ⟨fun pins s0 σ H Q J h => ?_⟩
  refine BoolOp_and (thn (ha.run pins s0 σ H _ J h) fun v s2 ⟨x, H2, J2, r2, q2⟩ => ?_)
  cases x with
  | bl k =>
    cases r2
    refine wpAny_truthy_bool ?_
    cases k with
    | true => exact hb.run pins s2 σ H2 Q J2 (q2.1 rfl)
    | false => exact ⟨.bl false, H2, J2, rfl, q2.2 rfl⟩
  | _ => exact False.elim q2
theorem xe_or (ha : PE X a ta) (hb : PE X (.BoolOp .Or (b :: rest) pos) tb) : PE X (.BoolOp .Or (a :: b :: rest) pos) (xOrV ta tb) := by
  refine ⟨fun pins s0 σ H Q J h => ?_⟩
  refine BoolOp_or (thn (ha.run pins s0 σ H _ J h) fun v s2 ⟨x, H2, J2, r2, q2⟩ => ?_)
  cases x with
  | bl k =>
    cases r2
    refine wpAny_truthy_bool ?_
    cases k with
    | true => exact ⟨.bl true, H2, J2, rfl, q2.1 rfl⟩
    | false => exact hb.run pins s2 σ H2 Q J2 (q2.2 rfl)
  | _ => exact False.elim q2
theorem xe_not (ha : PE X a ta) : PE X (.UnaryOp .Not a pos) (xNotV ta) := by
  refine ⟨fun pins s0 σ H Q J h => ?_⟩
  refine UnaryOp_ (thn (ha.run pins s0 σ H _ J h) fun v s2 ⟨x, H2, J2, r2, q2⟩ => ?_)
  cases x with
  | bl k =>
    cases r2
    exact not_of (wpAny_truthy_bool ⟨.bl (!k), H2, J2, rfl, q2⟩)
  | _ => exact False.elim q2
/-- a if t else b -/
def xIf (t : TT) (ta tb : TE) : TE := fun σ H Q => t σ H fun c H1 => (c = true → ta σ H1 Q) ∧ (c = false → tb σ H1 Q)
theorem xe_if {c : Expr} (hc : PT X c tA) (ha : PE X a ta) (hb : PE X b tb) : PE X (.IfExp c a b pos) (xIf tA ta tb) := by
  refine ⟨fun pins s0 σ H Q J h => ?_⟩
  refine wpAny_IfExp (thn (hc.run pins s0 σ H _ J h) fun k s2 ⟨H2, J2, q2⟩ => ?_)
  cases k with
  | true => exact ha.run pins s2 σ H2 Q J2 (q2.1 rfl)
  | false => exact hb.run pins s2 σ H2 Q J2 (q2.2 rfl)
/-- if t: .. else: .. -/
def xIfS (c : TT) (t u : TS) : TS := fun D σ H => c σ H fun b H1 => (b = true → t D σ H1) ∧ (b = false → u D σ H1)
theorem xs_if {c : Expr} {as bs : List Stmt} {tc : TT} {t u : TS} (hc : PT X c tc) (ha : PSs X as t) (hb : PSs X bs u) : PS X (.If c as bs pos) (xIfS tc t u) := by
  refine ⟨fun pins s0 σ H D J h => ?_⟩
  refine wpAny_If (thn (hc.run pins s0 σ H _ J h) fun k s2 ⟨H2, J2, q2⟩ => ?_)
  cases k with
  | true => exact ha.run pins s2 σ H2 D J2 (q2.1 rfl)
  | false => exact hb.run pins s2 σ H2 D J2 (q2.2 rfl)

/-! ### calls of built-ins -/
def yLen (K : PySem.W.Frag) : List V → Hp → VK → Prop := fun xs H Q => match xs with
  | [.str y] => y.length ≤ sizeLine ∧ Q (.int y.length) H
  | [.ref p] => ∃ ys, (SqL K H p ys ∨ SqT K H p ys) ∧ Q (.int ys.length) H
  | _ => False
theorem cr_len : CallR X (.builtin "len") (yLen X.K) := by
  refine cr_str (call_len (X := X)) fun xs H Q h => ?_
  unfold yLen at h
  split at h
  · exact ⟨_, _, rfl, ⟨h.1, rfl⟩, h.2⟩
  · obtain ⟨ys, hy, q⟩ := h
    rcases hy with hy | hy
    · exact ⟨_, _, rfl, .inl ⟨ys, hy, rfl⟩, q⟩
    · exact ⟨_, _, rfl, .inr ⟨ys, hy, rfl⟩, q⟩
  · exact h.elim
def yInt : List V → Hp → VK → Prop := fun xs H Q => match xs with
  | [.int i] => Q (.int i) H
  | [.bl k] => Q (.int (if k then 1 else 0)) H
  | [.str z] => ∃ n, PySem.intText? z = some n ∧ z.length ≤ 640 ∧ Q (.int n) H
  | _ => False
theorem cr_int : CallR X (.type "int") yInt := by
  refine cr_str (CallR.or (call_int1 (X := X)) (call_int_str (X := X))) fun xs H Q h => ?_
  unfold yInt at h
  split at h
  · exact .inl (.inl ⟨_, rfl, h⟩)
  · exact .inl (.inr ⟨_, rfl, h⟩)
  · obtain ⟨n, h1, h2, q⟩ := h
    exact .inr ⟨_, n, rfl, h1, h2, q⟩
  · exact h.elim
def yAbs : List V → Hp → VK → Prop := fun xs H Q => match xs with
  | [.int i] => Q (.int i.natAbs) H
  | _ => False
theorem cr_abs : CallR X (.builtin "abs") yAbs := by
  refine cr_str (call_abs (X := X)) fun xs H Q h => ?_
  unfold yAbs at h
  split at h
  · rename_i i
    refine ⟨i, rfl, ?_⟩
    have e : (if i < 0 then -i else i) = (i.natAbs : Int) := by split <;> omega
    rw [e]
    exact h
  · exact h.elim
def yStr : List V → Hp → VK → Prop := fun xs H Q => match xs with
  | [.int i] => i.natAbs.log2 < 1920 ∧ Q (.str (toString i)) H
  | _ => False
theorem cr_strI : CallR X (.type "str") yStr := by
  refine cr_str (call_str_int (X := X)) fun xs H Q h => ?_
  unfold yStr at h
  split at h
  · exact ⟨_, rfl, h.1, h.2⟩
  · exact h.elim
def yIx (K : PySem.W.Frag) : R2 := fun x y H Q => match x, y with
  | .ref p, .int i => ∃ xs v, (SqL K H p xs ∨ SqT K H p xs) ∧ atI xs i = some v ∧ Q v H
  | .str z, .int i => ∃ c, z.length ≤ sizeLine ∧ atI z.cps.toList i = some c ∧ Q (.str ⟨#[c]⟩) H
  | _, _ => False
theorem ix_y : IxR X (yIx X.K) := by
  intro value slice pins s σ H x y v u Q I rx ry h hs
  refine ix_seq (X := X) value slice pins s σ H x y v u Q I rx ry ?_ hs
  unfold yIx at h
  split at h
  · obtain ⟨xs, z, h1, h2, q⟩ := h
    rcases h1 with h1 | h1
    · exact .inl ⟨_, xs, _, z, rfl, rfl, h1, h2, q⟩
    · exact .inr (.inl ⟨_, xs, _, z, rfl, rfl, h1, h2, q⟩)
  · obtain ⟨k, h1, h2, q⟩ := h
    exact .inr (.inr ⟨_, _, k, rfl, rfl, h1, h2, q⟩)
  · exact h.elim
end

/-! ### the heap: what only grows, and the cells that change -/
def Sep (G : Hp) (M : List (Addr × HO)) (H : Hp) : Prop := Same G H ∧ (∀ p ∈ M, H p.1 = some p.2 ∧ G p.1 = none) ∧ (M.map (·.1)).Nodup
section
variable {G G' H H' : Hp} {M : List (Addr × HO)} {p a b : Addr} {o o' u : HO}
theorem same_upd (h : H p = none) : Same H (upd H p o) := fun b x e => by
  rw [upd_ne (ne_of_none e h)]
  exact e
theorem sep0 : Sep H [] H := ⟨Same.refl H, (fun _ h => nomatch h), List.nodup_nil⟩
theorem Sep.st (S : Sep G M H) (h : G a = some o) : H a = some o := S.1 a o h
theorem Sep.hd (S : Sep G ((a, o) :: M) H) : H a = some o := (S.2.1 _ List.mem_cons_self).1
theorem Sep.at (S : Sep G M H) (h : (a, o) ∈ M) : H a = some o := (S.2.1 _ h).1
theorem Sep.fresh (S : Sep G M H) (h : H p = none) : G p = none := S.1.free h
theorem Sep.new (S : Sep G M H) (h : H p = none) : Sep G ((p, o) :: M) (upd H p o) := by
  refine ⟨S.1.trans (same_upd h), fun q hq => ?_, ?_⟩
  · rcases List.mem_cons.mp hq with rfl | hq
    · exact ⟨upd_same, S.fresh h⟩
    · exact ⟨same_upd h _ _ (S.2.1 q hq).1, (S.2.1 q hq).2⟩
  · rw [List.map_cons, List.nodup_cons]
    refine ⟨fun hm => ?_, S.2.2⟩
    obtain ⟨q, hq, e⟩ := List.mem_map.mp hm
    have z := (S.2.1 q hq).1
    rw [e, h] at z
    cases z
theorem Sep.newG (S : Sep G M H) (h : H p = none) : Sep (upd G p o) M (upd H p o) := by
  refine ⟨fun b x e => ?_, fun q hq => ?_, S.2.2⟩
  · by_cases hb : b = p
    · subst hb
      rw [upd_same] at e ⊢
      exact e
    · rw [upd_ne hb] at e ⊢
      exact S.1 b x e
  · have z := S.2.1 q hq
    refine ⟨same_upd h _ _ z.1, ?_⟩
    rw [upd_ne (ne_of_none z.1 h)]
    exact z.2
theorem Sep.grow (S : Sep G M H) (h : H p = none) : Same G (upd G p o) := same_upd (S.fresh h)
theorem Sep.set (S : Sep G ((a, o) :: M) H) : Sep G ((a, o') :: M) (upd H a o') := by
  have hn := S.2.2
  rw [List.map_cons, List.nodup_cons] at hn
  have ha := S.2.1 _ List.mem_cons_self
  refine ⟨fun b x e => ?_, fun q hq => ?_, S.2.2⟩
  · rw [upd_ne (ne_of_none e ha.2)]
    exact S.1 b x e
  · rcases List.mem_cons.mp hq with rfl | hq
    · exact ⟨upd_same, ha.2⟩
    · refine ⟨?_, (S.2.1 q (List.mem_cons_of_mem _ hq)).2⟩
      rw [upd_ne (show q.1 ≠ a from fun e => hn.1 (by have z : q.1 ∈ M.map (·.1) := List.mem_map_of_mem hq
                                                      rw [e] at z; exact z))]
      exact (S.2.1 q (List.mem_cons_of_mem _ hq)).1
theorem Sep.frz (S : Sep G ((a, o) :: M) H) : Sep (upd G a o) M H := by
  have hn := S.2.2
  rw [List.map_cons, List.nodup_cons] at hn
  have ha := S.2.1 _ List.mem_cons_self
  refine ⟨fun b x e => ?_, fun q hq => ?_, hn.2⟩
  · by_cases hb : b = a
    · subst hb
      rw [upd_same] at e
      cases e
      exact ha.1
    · rw [upd_ne hb] at e
      exact S.1 b x e
  · have z := S.2.1 q (List.mem_cons_of_mem _ hq)
    refine ⟨z.1, ?_⟩
    rw [upd_ne (show q.1 ≠ a from fun e => hn.1 (by have z : q.1 ∈ M.map (·.1) := List.mem_map_of_mem hq
                                                    rw [e] at z; exact z))]
    exact z.2
theorem Sep.none (S : Sep G ((a, o) :: M) H) : G a = none := (S.2.1 _ List.mem_cons_self).2
theorem Sep.frzS (S : Sep G ((a, o) :: M) H) : Same G (upd G a o) := same_upd S.none
theorem Sep.drop {q : Addr × HO} (S : Sep G (q :: M) H) : Sep G M H := by
  have hn := S.2.2
  rw [List.map_cons, List.nodup_cons] at hn
  exact ⟨S.1, fun p hp => S.2.1 p (List.mem_cons_of_mem _ hp), hn.2⟩
theorem Sep.perm {M' : List (Addr × HO)} (S : Sep G M H) (h : M.Perm M') : Sep G M' H :=
  ⟨S.1, fun q hq => S.2.1 q (h.mem_iff.mpr hq), (h.map _).nodup_iff.mp S.2.2⟩
theorem Sep.sw {q r : Addr × HO} (S : Sep G (q :: r :: M) H) : Sep G (r :: q :: M) H := S.perm (List.Perm.swap _ _ _)
theorem same_l {K : PySem.W.Frag} {xs : List V} (e : Same H H') (h : SqL K H a xs) : SqL K H' a xs := e.seq h
theorem same_t {K : PySem.W.Frag} {xs : List V} (e : Same H H') (h : SqT K H a xs) : SqT K H' a xs := by
  rcases h with (h | ⟨o, h⟩) | h
  · exact .inl (.inl (e _ _ h))
  · exact .inl (.inr ⟨o, e _ _ h⟩)
  · exact .inr h
theorem Sep.l {K : PySem.W.Frag} {xs : List V} (S : Sep G M H) (h : SqL K G a xs) : SqL K H a xs := same_l S.1 h
theorem Sep.t {K : PySem.W.Frag} {xs : List V} (S : Sep G M H) (h : SqT K G a xs) : SqT K H a xs := same_t S.1 h
end
mutual
theorem dp_same {K : PySem.W.Frag} {H H' : Hp} (e : Same H H') : ∀ {d : PyData} {v : V}, Dp K H v d → Dp K H' v d
  | _, _, .non => .non
  | _, _, .bl b => .bl b
  | _, _, .int i => .int i
  | _, _, .str x => .str x
  | _, _, .lst h hs => .lst (same_l e h) (dpa_same e hs)
  | _, _, .tup h hs => .tup (same_t e h) (dpa_same e hs)
theorem dpa_same {K : PySem.W.Frag} {H H' : Hp} (e : Same H H') : ∀ {ds : List PyData} {vs : List V}, DpAll K H vs ds → DpAll K H' vs ds
  | _, _, .nil => .nil
  | _, _, .cons h hs => .cons (dp_same e h) (dpa_same e hs)
end

/-! ### loops by what has been gone through -/
theorem take_pre {α : Type} {xs : List α} {i : Nat} {x : α} (h : xs[i]? = some x) : xs = xs.take i ++ x :: xs.drop (i + 1) ∧ xs.take (i + 1) = xs.take i ++ [x] := by
  have hi : i < xs.length := (List.getElem?_eq_some_iff.mp h).1
  have e : xs[i] = x := (List.getElem?_eq_some_iff.mp h).2
  refine ⟨?_, ?_⟩
  · rw [← e, List.getElem_cons_drop, List.take_append_drop]
  · rw [List.take_add_one, h]
    rfl
section
variable {K : PySem.W.Frag} {a : Addr} {xs : List V} {g : TG} {tb : TS} {D : Ends} {σ : L2.St} {H : Hp}
theorem for_pre (Pv : List V → L2.St → Hp → Prop) (h0 : Pv [] σ H) (hl : ∀ pre σ H, Pv pre σ H → SqL K H a xs)
    (hs : ∀ pre x post σ H, xs = pre ++ x :: post → Pv pre σ H → g x σ H fun σ2 H2 => tb { D with nx := Pv (pre ++ [x]), ct := Pv (pre ++ [x]), bk := D.nx } σ2 H2) (hd : ∀ σ H, Pv xs σ H → D.nx σ H) :
    ∃ W : Nat → Nat → L2.St → Hp → Prop, (∃ m, W 0 m σ H) ∧ ∀ i m σ H, W i m σ H →
      ((Itl K a).stop i H ∧ D.nx σ H) ∨ ((Itl K a).go i H ∧ ∃ N : L2.St → Hp → Prop, (∀ σ' H', N σ' H' → ∃ m', m' < m ∧ W (i + 1) m' σ' H') ∧ ∀ x H', (Itl K a).yld i H x H' → g x σ H' fun σ2 H2 => tb { D with nx := N, ct := N, bk := D.nx } σ2 H2) :=
  for_list (fun i => Pv (xs.take i)) h0 (fun i σ H _ p => hl _ σ H p) (fun i x σ H hx p => by
    rw [(take_pre hx).2]
    exact hs _ x _ σ H (take_pre hx).1 p) (fun σ H p => hd σ H (by rw [List.take_length] at p; exact p))
theorem for_preT (Pv : List V → L2.St → Hp → Prop) (h0 : Pv [] σ H) (hl : ∀ pre σ H, Pv pre σ H → SqT K H a xs)
    (hs : ∀ pre x post σ H, xs = pre ++ x :: post → Pv pre σ H → g x σ H fun σ2 H2 => tb { D with nx := Pv (pre ++ [x]), ct := Pv (pre ++ [x]), bk := D.nx } σ2 H2) (hd : ∀ σ H, Pv xs σ H → D.nx σ H) :
    ∃ W : Nat → Nat → L2.St → Hp → Prop, (∃ m, W 0 m σ H) ∧ ∀ i m σ H, W i m σ H →
      ((Itt K a).stop i H ∧ D.nx σ H) ∨ ((Itt K a).go i H ∧ ∃ N : L2.St → Hp → Prop, (∀ σ' H', N σ' H' → ∃ m', m' < m ∧ W (i + 1) m' σ' H') ∧ ∀ x H', (Itt K a).yld i H x H' → g x σ H' fun σ2 H2 => tb { D with nx := N, ct := N, bk := D.nx } σ2 H2) :=
  for_tup (fun i => Pv (xs.take i)) h0 (fun i σ H _ p => hl _ σ H p) (fun i x σ H hx p => by
    rw [(take_pre hx).2]
    exact hs _ x _ σ H (take_pre hx).1 p) (fun σ H p => hd σ H (by rw [List.take_length] at p; exact p))
/-- for i, x in enumerate(xs) -/
theorem for_enum {i j : Nat} (Pv : List V → L2.St → Hp → Prop) (h0 : Pv [] σ H) (hl : ∀ pre σ H, Pv pre σ H → SqL K H a xs)
    (hs : ∀ pre x post σ H T, xs = pre ++ x :: post → Pv pre σ H → H T = none →
      tb { D with nx := Pv (pre ++ [x]), ct := Pv (pre ++ [x]), bk := D.nx } ((σ.set i (some (.int (pre.length : Nat)))).set j (some x)) (upd H T (.tup [.int (pre.length : Nat), x]))) (hd : ∀ σ H, Pv xs σ H → D.nx σ H) :
    ∃ W : Nat → Nat → L2.St → Hp → Prop, (∃ m, W 0 m σ H) ∧ ∀ k m σ H, W k m σ H →
      ((Ite K a).stop k H ∧ D.nx σ H) ∨ ((Ite K a).go k H ∧ ∃ N : L2.St → Hp → Prop, (∀ σ' H', N σ' H' → ∃ m', m' < m ∧ W (k + 1) m' σ' H') ∧ ∀ x H', (Ite K a).yld k H x H' →
        (gTup K 2 (gCons (gName i) (gCons (gName j) gNil))) x σ H' fun σ2 H2 => tb { D with nx := N, ct := N, bk := D.nx } σ2 H2) := by
  refine ⟨fun k m σ H => m = xs.length - k ∧ k ≤ xs.length ∧ Pv (xs.take k) σ H, ⟨xs.length, by simp, Nat.zero_le _, h0⟩, ?_⟩
  rintro k m σ H ⟨rfl, hk, p⟩
  have q := hl _ σ H p
  by_cases hlt : k < xs.length
  · refine .inr ⟨⟨xs, xs[k], q, by simp [hlt]⟩, Pv (xs.take (k + 1)), fun σ' H' p' => ⟨xs.length - (k + 1), by omega, rfl, hlt, p'⟩, fun v H' y => ?_⟩
    obtain ⟨T, x, rfl, nT, rfl, hx⟩ := y
    have hx := hx xs q
    refine ⟨T, _, rfl, SqT.of upd_same, rfl, _, _, rfl, _, _, rfl, rfl, ?_⟩
    have z := hs _ x _ σ H T (take_pre hx).1 p nT
    rw [(take_pre hx).2]
    rw [show (xs.take k).length = k by rw [List.length_take]; omega] at z
    exact z
  · have e : k = xs.length := by omega
    subst e
    rw [List.take_length] at p
    exact .inl ⟨⟨xs, q, Nat.le_refl _⟩, hd σ H p⟩
/-- [e for x in xs] -/
theorem lc_pre {te : TE} {vs : List Nat} {i : Nat} {H1 : Hp} {L : Addr} {Qd : Hp → Prop} (Pv : List V → Hp → Prop) (h0 : Pv [] (upd H1 L (.lst []))) (hl : ∀ pre H, Pv pre H → SqL K H a xs)
    (hw : ∀ x, wipe ((wipe σ vs).set i (some x)) vs = wipe σ vs)
    (hs : ∀ pre x post H, xs = pre ++ x :: post → Pv pre H → te ((wipe σ vs).set i (some x)) H fun y H4 => ∃ acc, H4 L = some (.lst acc) ∧ acc.length < sizeLine ∧ Pv (pre ++ [x]) (upd H4 L (.lst (acc ++ [y])))) (hd : ∀ H, Pv xs H → Qd H) :
    ∃ W : Nat → Nat → Hp → Prop, (∃ m, W 0 m (upd H1 L (.lst []))) ∧ ∀ k m H, W k m H →
      ((Itl K a).stop k H ∧ Qd H) ∨ ((Itl K a).go k H ∧ ∃ Nx : Hp → Prop, (∀ H', Nx H' → ∃ m', m' < m ∧ W (k + 1) m' H') ∧ ∀ x H', (Itl K a).yld k H x H' → gName i x (wipe σ vs) H' fun σ2 H2 => wipe σ2 vs = wipe σ vs ∧ tYes σ2 H2 fun b H3 =>
        if b = true then te σ2 H3 fun y H4 => ∃ acc, H4 L = some (.lst acc) ∧ acc.length < sizeLine ∧ Nx (upd H4 L (.lst (acc ++ [y]))) else Nx H3) :=
  lc_list (fun k => Pv (xs.take k)) h0 (fun k H _ p => hl _ H p) (fun k x H hx p => ⟨hw x, by
    rw [(take_pre hx).2]
    exact hs _ x _ H (take_pre hx).1 p⟩) (fun H p => hd H (by rw [List.take_length] at p; exact p))
/-- [e for x in range(n)] -/
theorem lc_rng {te : TE} {vs : List Nat} {i : Nat} {n : Nat} {lo : Int} {H1 : Hp} {L : Addr} {Qd : Hp → Prop} (Pv : Nat → Hp → Prop) (h0 : Pv 0 (upd H1 L (.lst [])))
    (hw : ∀ x, wipe ((wipe σ vs).set i (some x)) vs = wipe σ vs)
    (hs : ∀ k H, k < n → Pv k H → te ((wipe σ vs).set i (some (.int (lo + k)))) H fun y H4 => ∃ acc, H4 L = some (.lst acc) ∧ acc.length < sizeLine ∧ Pv (k + 1) (upd H4 L (.lst (acc ++ [y])))) (hd : ∀ H, Pv n H → Qd H) :
    ∃ W : Nat → Nat → Hp → Prop, (∃ m, W 0 m (upd H1 L (.lst []))) ∧ ∀ k m H, W k m H →
      ((Itr lo n).stop k H ∧ Qd H) ∨ ((Itr lo n).go k H ∧ ∃ Nx : Hp → Prop, (∀ H', Nx H' → ∃ m', m' < m ∧ W (k + 1) m' H') ∧ ∀ x H', (Itr lo n).yld k H x H' → gName i x (wipe σ vs) H' fun σ2 H2 => wipe σ2 vs = wipe σ vs ∧ tYes σ2 H2 fun b H3 =>
        if b = true then te σ2 H3 fun y H4 => ∃ acc, H4 L = some (.lst acc) ∧ acc.length < sizeLine ∧ Nx (upd H4 L (.lst (acc ++ [y]))) else Nx H3) :=
  lc_range (lo := lo) (n := n) Pv h0 (fun k H hk p => ⟨hw _, hs k H hk p⟩) hd
end
/-! ### places of lists -/
theorem atI_in {α : Type} {xs : List α} {i : Int} (h0 : 0 ≤ i) (h1 : i < xs.length) : ∃ v, atI xs i = some v ∧ v ∈ xs := by
  obtain ⟨j, rfl⟩ : ∃ j : Nat, i = (j : Int) := ⟨i.toNat, by omega⟩
  have hj : j < xs.length := by omega
  exact ⟨xs[j], atI_nat (List.getElem?_eq_getElem hj), List.getElem_mem hj⟩
theorem small {n : Nat} (h : n ≤ 100000) : n ≤ sizeLine := Nat.le_trans h (by decide)
theorem smallL {n : Nat} (h : n < 100000) : n < sizeLine := Nat.lt_of_lt_of_le h (by decide)
theorem sz {n : Nat} (h : Nat.ble n 100000 = true := by rfl) : n ≤ sizeLine := small (Nat.le_of_ble_eq_true h)
theorem seqIdx {i : Int} {n : Nat} (h0 : 0 ≤ i) (h1 : i < n) : seqIndex? i n = some i.toNat := by
  unfold seqIndex?
  have e : (if i < 0 then i + n else i) = i := by rw [if_neg (by omega)]
  simp only [e]
  rw [if_pos (by simp; omega)]
theorem atN {α : Type} {xs : List α} {i : Int} {v : α} (h0 : 0 ≤ i) (h : atI xs i = some v) : xs[i.toNat]? = some v := by
  obtain ⟨j, rfl⟩ : ∃ j : Nat, i = (j : Int) := ⟨i.toNat, by omega⟩
  unfold atI ixN at h
  rw [if_pos (by omega)] at h
  split at h
  · simpa using h
  · cases h
theorem mem_erase {α : Type} {xs : List α} {k : Nat} {y : α} (h : y ∈ xs.eraseIdx k) : y ∈ xs := List.mem_of_mem_eraseIdx h
/-- the i-th of a paired list -/
theorem prd_get {α β : Type} {F : α → β → Prop} : ∀ {xs : List α} {ys : List β} {i : Nat} {x : α}, Paired F xs ys → xs[i]? = some x → ∃ y, ys[i]? = some y ∧ F x y
  | _, _, _, _, .nil, h => by simp at h
  | _, _, 0, _, .cons r _, h => by
    simp at h
    subst h
    exact ⟨_, rfl, r⟩
  | _, _, i + 1, _, .cons _ t, h => by
    rw [List.getElem?_cons_succ] at h
    obtain ⟨y, h1, h2⟩ := prd_get t h
    exact ⟨y, by rw [List.getElem?_cons_succ]; exact h1, h2⟩
theorem prd_len {α β : Type} {F : α → β → Prop} : ∀ {xs : List α} {ys : List β}, Paired F xs ys → xs.length = ys.length
  | _, _, .nil => rfl
  | _, _, .cons _ t => congrArg (· + 1) (prd_len t)
theorem prd_imp {α β : Type} {F F' : α → β → Prop} (k : ∀ x y, F x y → F' x y) : ∀ {xs : List α} {ys : List β}, Paired F xs ys → Paired F' xs ys
  | _, _, .nil => .nil
  | _, _, .cons r t => .cons (k _ _ r) (prd_imp k t)
theorem prd_app {α β : Type} {F : α → β → Prop} : ∀ {xs xs' : List α} {ys ys' : List β}, Paired F xs ys → Paired F xs' ys' → Paired F (xs ++ xs') (ys ++ ys')
  | _, _, _, _, .nil, s => s
  | _, _, _, _, .cons r t, s => .cons r (prd_app t s)
theorem prd_take {α β : Type} {F : α → β → Prop} : ∀ {xs : List α} {ys : List β} (n : Nat), Paired F xs ys → Paired F (xs.take n) (ys.take n)
  | _, _, 0, _ => .nil
  | _, _, _ + 1, .nil => .nil
  | _, _, n + 1, .cons r t => .cons r (prd_take n t)
/-- each has a partner -/
theorem prd_ex {α β : Type} {F : α → β → Prop} : ∀ {xs : List α}, (∀ x ∈ xs, ∃ y, F x y) → ∃ ys, Paired F xs ys
  | [], _ => ⟨[], .nil⟩
  | x :: r, h => by
    obtain ⟨y, hy⟩ := h x List.mem_cons_self
    obtain ⟨ys, hs⟩ := prd_ex fun x hx => h x (List.mem_cons_of_mem _ hx)
    exact ⟨y :: ys, .cons hy hs⟩
theorem prd_mem {α β : Type} {F : α → β → Prop} {x : α} : ∀ {xs : List α} {ys : List β}, Paired F xs ys → x ∈ xs → ∃ y ∈ ys, F x y
  | _, _, .nil, h => nomatch h
  | _, _, .cons (b := b) r t, h => by
    rcases List.mem_cons.mp h with rfl | h
    · exact ⟨b, List.mem_cons_self, r⟩
    · obtain ⟨y, h1, h2⟩ := prd_mem t h
      exact ⟨y, List.mem_cons_of_mem _ h1, h2⟩
/-- a statement and what follows it, with a word J between them -/
def xCut (t u : TS) : TS := fun D σ H => ∃ J : L2.St → Hp → Prop, t { D with nx := J } σ H ∧ ∀ σ' H', J σ' H' → u D σ' H'
theorem xss_cut {X : Cx} {st : Stmt} {sts : List Stmt} {t u : TS} (h1 : PS X st t) (h2 : PSs X sts u) : PSs X (st :: sts) (xCut t u) := by
  refine ⟨fun pins s0 σ H D I h => ?_⟩
  obtain ⟨J, hj, hu⟩ := h
  refine wpAny_execs_cons (thn (h1.run pins s0 σ H { D with nx := J } I hj) fun fl s2 q => ?_)
  cases fl with
  | next =>
    obtain ⟨σ2, H2, I2, q2⟩ := q
    exact h2.run pins s2 σ2 H2 D I2 (hu σ2 H2 q2)
  | _ => exact q
section
variable {K : PySem.W.Frag} {a : Addr} {xs : List V} {σ : L2.St}
/-- [e for x in xs], by the turn -/
theorem lc_at {te : TE} {vs : List Nat} {i : Nat} {H1 : Hp} {L : Addr} {Qd : Hp → Prop} (Pv : Nat → Hp → Prop) (h0 : Pv 0 (upd H1 L (.lst []))) (hl : ∀ k H, Pv k H → SqL K H a xs)
    (hw : ∀ x, wipe ((wipe σ vs).set i (some x)) vs = wipe σ vs)
    (hs : ∀ k x H, xs[k]? = some x → Pv k H → te ((wipe σ vs).set i (some x)) H fun y H4 => ∃ acc, H4 L = some (.lst acc) ∧ acc.length < sizeLine ∧ Pv (k + 1) (upd H4 L (.lst (acc ++ [y])))) (hd : ∀ H, Pv xs.length H → Qd H) :
    ∃ W : Nat → Nat → Hp → Prop, (∃ m, W 0 m (upd H1 L (.lst []))) ∧ ∀ k m H, W k m H →
      ((Itl K a).stop k H ∧ Qd H) ∨ ((Itl K a).go k H ∧ ∃ Nx : Hp → Prop, (∀ H', Nx H' → ∃ m', m' < m ∧ W (k + 1) m' H') ∧ ∀ x H', (Itl K a).yld k H x H' → gName i x (wipe σ vs) H' fun σ2 H2 => wipe σ2 vs = wipe σ vs ∧ tYes σ2 H2 fun b H3 =>
        if b = true then te σ2 H3 fun y H4 => ∃ acc, H4 L = some (.lst acc) ∧ acc.length < sizeLine ∧ Nx (upd H4 L (.lst (acc ++ [y]))) else Nx H3) :=
  lc_list Pv h0 (fun k H _ p => hl _ H p) (fun k x H hx p => ⟨hw x, hs _ x H hx p⟩) hd
end
theorem take_snoc {α : Type} {xs : List α} {i : Nat} {x : α} (h : xs[i]? = some x) : xs.take (i + 1) = xs.take i ++ [x] := (take_pre h).2
theorem ff {A : Prop} (h : false = true) : A := nomatch h
theorem tt {A : Prop} (h : true = false) : A := nomatch h
/-! ### the same with the written part K said (within a comprehension the reading must not name its context) -/
section
variable {X : Cx} (K : PySem.W.Frag) {a b e o : Expr} {es : List Expr} {ta tb te to : TE} {t : TA} {pos : Pos} {tg : Expr}
theorem ix_k (h : X.K = K := by rfl) : IxR X (yIx K) := h ▸ ix_y
theorem cr_lenK (h : X.K = K := by rfl) : CallR X (.builtin "len") (yLen K) := h ▸ cr_len
theorem op_eqK (hu : X.A.units + 64 < cLine) (h : X.K = K := by rfl) : OpR X (compareOp .Eq) (yEq K) := h ▸ op_eqY hu
theorem op_neK (hu : X.A.units + 64 < cLine) (h : X.K = K := by rfl) : OpR X (compareOp .NotEq) (yNe K) := h ▸ op_neY hu
theorem xt_truK (ha : PE X a ta) (h : X.K = K := by rfl) (he : ∀ whole, isTrue a X.env whole = (do let v ← whole; standAt a.pos; holding [v] (truthy v)) := by intro _; rfl) : PT X a (xTru K ta) := h ▸ xt_tru ha he
theorem call_isK (h : X.K = K := by rfl) : CallR X (.builtin "isinstance") (rIsi K) := h ▸ call_isi
def yList (K : PySem.W.Frag) : List V → Hp → VK → Prop := fun xs H Q => ∃ p ys, xs = [.ref p] ∧ (SqL K H p ys ∨ SqT K H p ys) ∧ ∀ l, H l = none → Q (.ref l) (upd H l (.lst ys))
theorem call_listK (h : X.K = K := by rfl) : CallR X (.type "list") (yList K) := h ▸ call_list_of
def yTup (K : PySem.W.Frag) : List V → Hp → VK → Prop := fun xs H Q => ∃ p ys, xs = [.ref p] ∧ ((SqL K H p ys ∧ ∀ l, H l = none → Q (.ref l) (upd H l (.tup ys))) ∨ (SqT K H p ys ∧ Q (.ref p) H))
theorem call_tupleK (h : X.K = K := by rfl) : CallR X (.type "tuple") (yTup K) := h ▸ call_tuple_of
theorem cr_sumK (hc : X.calm = true) (h : X.K = K := by rfl) : CallR X (.builtin "sum") (rSum K) := h ▸ cr_sum hc
theorem sl_listK (h : X.K = K := by rfl) : SlR X (rSlL K) := h ▸ sl_list
theorem pi_listK (ha : PE X a ta) (h : X.K = K := by rfl) : PI X tg a (iList K ta) := h ▸ pi_list ha
theorem pi_tupK (ha : PE X a ta) (h : X.K = K := by rfl) : PI X tg a (iTup K ta) := h ▸ pi_tup ha
theorem pe_bmK {T id : String} {name : Str} {apos cpos : Pos} {r : V → List V → Hp → VK → Prop} (pa : PlainAttrs T) (slot : Slot T name id) (hty : typeOf (.builtin id) = pure (.type "method_descriptor")) (hm : MtR X id r) (ho : PE X o to) (ha : PA X (e :: es) t) (hK : X.K = K := by rfl)
    (hbase : attributeBase o name X.env (eval o X.env) = eval o X.env := by rfl)
    (hfew : ((backTo cpos (starEach (e :: es) X.env)).all (fun x => !x.1) && (backToKw cpos (keywordEach [] X.env)).all (fun x => x.1.isSome)
      && decide ((e :: es).length + ([] : List Keyword).length + (if ([] : List Keyword).isEmpty then 0 else 1) < 30)) = true := by rfl)
    (hline : (apos.endLine == cpos.line) = true := by rfl) (hs : starEach (e :: es) X.env = (false, eval e X.env) :: starEach es X.env := by rfl) (hplain : (backTo cpos (starEach es X.env)).any (·.1) = false := by rfl) :
    PE X (.Call (.Attribute o name apos) (e :: es) [] cpos) (tBM K T r to t) := hK ▸ pe_bm pa slot hty hm ho ha hbase hfew hline hs hplain
end
end XL
set_option Elab.async false
set_option linter.all false
set_option maxRecDepth 100000
set_option maxHeartbeats 4000000
namespace K16
open PySem PySem.Spec PyProof.Rows L2 XL
def topS (i : Nat) : Stmt := PySem.Challenge.pw_drawnanew_k16_measured_sizes.main.body.getD i (.Pass ⟨0, 0, 0, 0⟩)
abbrev s_measure : Stmt := topS 1
theorem sc_measure : FnScope ["label", "sizes", "width", "height", "wide", "high"] ["label", "sizes"] (defScope s_measure) := ⟨rfl, rfl, rfl, by decide +kernel, rfl, by decide +kernel, by decide +kernel⟩
abbrev s_mixed : Stmt := topS 3
theorem sc_mixed : FnScope ["_law_number_here", "_law_turn", "_law_first", "_law_second"] ["_law_number_here", "_law_turn"] (defScope s_mixed) := ⟨rfl, rfl, rfl, by decide +kernel, rfl, by decide +kernel, by decide +kernel⟩
abbrev s_bag : Stmt := topS 4
theorem sc_bag : FnScope ["_law_script", "_law_cell", "_law_numbers", "_law_seed", "_law_at"] ["_law_script"] (defScope s_bag) := ⟨rfl, rfl, rfl, by decide +kernel, rfl, by decide +kernel, by decide +kernel⟩
abbrev s_pick : Stmt := topS 5
theorem sc_pick : FnScope ["_law_bag_here", "_law_many", "_law_turn", "_law_worth", "_law_cell", "_law_great"] ["_law_bag_here", "_law_many"] (defScope s_pick) := ⟨rfl, rfl, rfl, by decide +kernel, rfl, by decide +kernel, by decide +kernel⟩
abbrev s_choice : Stmt := topS 6
theorem sc_choice : FnScope ["_law_bag_here", "_law_things"] ["_law_bag_here", "_law_things"] (defScope s_choice) := ⟨rfl, rfl, rfl, by decide +kernel, rfl, by decide +kernel, by decide +kernel⟩
abbrev s_mingled : Stmt := topS 7
theorem sc_mingled : FnScope ["_law_bag_here", "_law_things", "_law_left", "_law_out", "_law_step"] ["_law_bag_here", "_law_things"] (defScope s_mingled) := ⟨rfl, rfl, rfl, by decide +kernel, rfl, by decide +kernel, by decide +kernel⟩
abbrev s_number : Stmt := topS 8
theorem sc_number : FnScope ["_law_thing"] ["_law_thing"] (defScope s_number) := ⟨rfl, rfl, rfl, by decide +kernel, rfl, by decide +kernel, by decide +kernel⟩
abbrev s_text : Stmt := topS 9
theorem sc_text : FnScope ["_law_bag_here", "_law_least", "_law_most", "_law_signs", "_law_told", "_law_step"] ["_law_bag_here", "_law_least", "_law_most"] (defScope s_text) := ⟨rfl, rfl, rfl, by decide +kernel, rfl, by decide +kernel, by decide +kernel⟩
abbrev s_label : Stmt := topS 10
theorem sc_label : FnScope ["_law_bag_here", "_law_way"] ["_law_bag_here"] (defScope s_label) := ⟨rfl, rfl, rfl, by decide +kernel, rfl, by decide +kernel, by decide +kernel⟩
abbrev s_pair : Stmt := topS 11
theorem sc_pair : FnScope ["_law_bag_here", "_law_wide", "_law_high", "_law_width", "_law_height"] ["_law_bag_here", "_law_wide", "_law_high"] (defScope s_pair) := ⟨rfl, rfl, rfl, by decide +kernel, rfl, by decide +kernel, by decide +kernel⟩
abbrev s_due : Stmt := topS 12
theorem sc_due : FnScope ["_law_label_here", "_law_pairs", "_law_widest", "_law_highest", "_law_pair_here"] ["_law_label_here", "_law_pairs"] (defScope s_due) := ⟨rfl, rfl, rfl, by decide +kernel, rfl, by decide +kernel, by decide +kernel⟩
abbrev s_is_pair : Stmt := topS 13
theorem sc_is_pair : FnScope ["_law_thing"] ["_law_thing"] (defScope s_is_pair) := ⟨rfl, rfl, rfl, by decide +kernel, rfl, by decide +kernel, by decide +kernel⟩
abbrev s_law : Stmt := topS 14
theorem sc_law : FnScope ["_law_script", "_law_bag_here", "_law_way", "_law_wide", "_law_high", "_law_pairs", "_law_mingled_here", "_law_rows", "_law_label_here", "_law_row", "_law_told", "_law_step", "_law_pair_here"] ["_law_script"] (defScope s_law) := ⟨rfl, rfl, rfl, by decide +kernel, rfl, by decide +kernel, by decide +kernel⟩
/-- what the top leaves -/
structure Top (K : PySem.W.Frag) (mg : Str → Option Value) where
  m_abs : mg "abs" = none
  m_bool : mg "bool" = none
  m_enumerate : mg "enumerate" = none
  m_int : mg "int" = none
  m_isinstance : mg "isinstance" = none
  m_len : mg "len" = none
  m_list : mg "list" = none
  m_range : mg "range" = none
  m_str : mg "str" = none
  m_sum : mg "sum" = none
  m_tuple : mg "tuple" = none
  a_measure : Addr
  d_measure : FuncData
  F_measure : Fun K "measure" "measure" s_measure a_measure d_measure
  b_measure : Binds K d_measure ["label", "sizes"] []
  g_measure : mg "measure" = some (.ref a_measure)
  a_mixed : Addr
  d_mixed : FuncData
  F_mixed : Fun K "_law_mixed" "_law_mixed" s_mixed a_mixed d_mixed
  b_mixed : Binds K d_mixed ["_law_number_here", "_law_turn"] []
  g_mixed : mg "_law_mixed" = some (.ref a_mixed)
  a_bag : Addr
  d_bag : FuncData
  F_bag : Fun K "_law_bag" "_law_bag" s_bag a_bag d_bag
  b_bag : Binds K d_bag ["_law_script"] []
  g_bag : mg "_law_bag" = some (.ref a_bag)
  a_pick : Addr
  d_pick : FuncData
  F_pick : Fun K "_law_pick" "_law_pick" s_pick a_pick d_pick
  b_pick : Binds K d_pick ["_law_bag_here", "_law_many"] []
  g_pick : mg "_law_pick" = some (.ref a_pick)
  a_choice : Addr
  d_choice : FuncData
  F_choice : Fun K "_law_choice" "_law_choice" s_choice a_choice d_choice
  b_choice : Binds K d_choice ["_law_bag_here", "_law_things"] []
  g_choice : mg "_law_choice" = some (.ref a_choice)
  a_mingled : Addr
  d_mingled : FuncData
  F_mingled : Fun K "_law_mingled" "_law_mingled" s_mingled a_mingled d_mingled
  b_mingled : Binds K d_mingled ["_law_bag_here", "_law_things"] []
  g_mingled : mg "_law_mingled" = some (.ref a_mingled)
  a_number : Addr
  d_number : FuncData
  F_number : Fun K "_law_number" "_law_number" s_number a_number d_number
  b_number : Binds K d_number ["_law_thing"] []
  g_number : mg "_law_number" = some (.ref a_number)
  a_text : Addr
  d_text : FuncData
  F_text : Fun K "_law_text" "_law_text" s_text a_text d_text
  b_text : Binds K d_text ["_law_bag_here", "_law_least", "_law_most"] []
  g_text : mg "_law_text" = some (.ref a_text)
  a_label : Addr
  d_label : FuncData
  F_label : Fun K "_law_label" "_law_label" s_label a_label d_label
  b_label : Binds K d_label ["_law_bag_here"] []
  g_label : mg "_law_label" = some (.ref a_label)
  a_pair : Addr
  d_pair : FuncData
  F_pair : Fun K "_law_pair" "_law_pair" s_pair a_pair d_pair
  b_pair : Binds K d_pair ["_law_bag_here", "_law_wide", "_law_high"] []
  g_pair : mg "_law_pair" = some (.ref a_pair)
  a_due : Addr
  d_due : FuncData
  F_due : Fun K "_law_due" "_law_due" s_due a_due d_due
  b_due : Binds K d_due ["_law_label_here", "_law_pairs"] []
  g_due : mg "_law_due" = some (.ref a_due)
  a_is_pair : Addr
  d_is_pair : FuncData
  F_is_pair : Fun K "_law_is_pair" "_law_is_pair" s_is_pair a_is_pair d_is_pair
  b_is_pair : Binds K d_is_pair ["_law_thing"] []
  g_is_pair : mg "_law_is_pair" = some (.ref a_is_pair)
  a_law : Addr
  d_law : FuncData
  F_law : Fun K "law" "law" s_law a_law d_law
  b_law : Binds K d_law ["_law_script"] []
  g_law : mg "law" = some (.ref a_law)

/-! ### the bag -/
structure Bag (G : Hp) (o : HO) : Prop where
  ex : ∃ (n : Addr) (ns : List Int) (i g t s : Int), o = .lst [.ref n, .int i, .int g, .int t, .int s] ∧ G n = some (.lst (ns.map V.int)) ∧ 0 ≤ i ∧ 0 ≤ g
theorem Bag.same {G G' : Hp} {o : HO} (e : Same G G') (b : Bag G o) : Bag G' o := by
  obtain ⟨n, ns, i, g, t, s, h1, h2, h3⟩ := b.ex
  exact ⟨n, ns, i, g, t, s, h1, e _ _ h2, h3⟩
section
variable {P : Program} {w : World} {K : PySem.W.Frag} {mg : Str → Option Value} {base : Heap}
def spMixed : Sp := fun vs H Q _ => ∃ n t : Int, vs = [.int n, .int t] ∧ ∀ r : Int, 0 ≤ r → r < 2147483587 → Q (.int r) H
theorem ok_mixed (T : Top K mg) {k : Nat} : FnOk P w K mg base CX0 (k + 1) T.a_mixed T.d_mixed ["_law_number_here", "_law_turn"] spMixed := by
  refine T.F_mixed.ok sc_mixed (fun vs H Q E h => ?_) (fun cdv A outer s H vs Q E hr h => ?_)
  · obtain ⟨n, t, rfl, _⟩ := h
    rfl
  · obtain ⟨n, t, rfl, q⟩ := h
    refine ⟨_, (pss_cons (ps_set (i := 2) sc_mixed.nd rfl (.inl rfl) (pe_op op_modY (pe_callTy cr_int (by rfl) T.m_int (by decide +kernel) (pa_cons (pe_op op_addY (pe_op op_mulY (pe_op op_addY (xv 0) pe_int) pe_int) (pe_op op_mulY (pe_op op_addY (xv 1) pe_int) pe_int)) pa_nil)) pe_int))
      (pss_cons (ps_set (i := 3) sc_mixed.nd rfl (.inl rfl) (pe_op op_modY (pe_callTy cr_int (by rfl) T.m_int (by decide +kernel) (pa_cons (pe_op op_addY (pe_op op_addY (pe_op op_mulY (xv 2) (xv 2)) (pe_op op_mulY (xv 2) pe_int)) (pe_op op_mulY (pe_op op_addY (xv 1) pe_int) pe_int)) pa_nil)) pe_int))
      (pss_one (ps_ret (pe_op op_modY (pe_callTy cr_int (by rfl) T.m_int (by decide +kernel) (pa_cons (pe_op op_addY (pe_op op_addY (pe_op op_divY (xv 3) pe_int) (pe_op op_mulY (xv 3) pe_int)) (xv 1)) pa_nil)) pe_int))))), ?_⟩
    refine ⟨.inr ⟨by decide, by decide⟩, .inr ⟨by decide, by decide⟩, by decide, fun f _ f0 f1 => ?_⟩
    refine ⟨.inl ⟨by omega, by omega⟩, .inr ⟨by decide, by decide⟩, .inr ⟨by decide, by decide⟩, by decide, fun g _ g0 g1 => ?_⟩
    refine ⟨⟨by decide, by decide⟩, fun d _ _ => ⟨.inr ⟨by decide, by decide⟩, by decide, fun r _ r0 r1 => ?_⟩⟩
    exact q r r0 r1
def spPick : Sp := fun vs H Q _ => ∃ (G : Hp) (M : List (Addr × HO)) (b : Addr) (o : HO) (n : Int), vs = [.ref b, .int n] ∧ Sep G ((b, o) :: M) H ∧ Bag G o ∧ 0 < n ∧ n < 1073741824 ∧
  ∀ (r : Int) (o' : HO) (H' : Hp), 0 ≤ r → r < n → Bag G o' → Sep G ((b, o') :: M) H' → Q (.int r) H'
theorem ok_pick (T : Top K mg) {k : Nat} (G_mixed : FnOk P w K mg base CX0 (k + 1) T.a_mixed T.d_mixed ["_law_number_here", "_law_turn"] spMixed) :
    FnOk P w K mg base CX0 (k + 2) T.a_pick T.d_pick ["_law_bag_here", "_law_many"] spPick := by
  refine T.F_pick.ok sc_pick (fun vs H Q E h => ?_) (fun cdv A outer s H vs Q E hr h => ?_)
  · obtain ⟨G, M, b, o, n, rfl, _⟩ := h
    rfl
  · obtain ⟨G, M, b, o, n, rfl, S, B, n0, n1, q⟩ := h
    obtain ⟨N, ns, i, g, t, z, rfl, hN, i0, g0⟩ := B.ex
    refine ⟨_, (pss_cons (ps_set (i := 2) sc_pick.nd rfl (.inl rfl) (pe_ix (ix_k K) (xv 0) pe_int (fun _ _ => rfl)))
      (pss_cons (ps_asg (pe_op op_addY (xv 2) pe_int) (pg_sub (xv 0) pe_int set_list))
      (pss_cons (xs_if (xt_cmp op_gtY (pe_ix (ix_k K) (xv 0) pe_int (fun _ _ => rfl)) pe_int (nomark _))
      (pss_cons (ps_set (i := 3) sc_pick.nd rfl (.inl rfl) (pe_op op_modY (pe_callTy cr_int (by rfl) T.m_int (by decide +kernel) (pa_cons (pe_ix (ix_k K) (xv 0) pe_int (fun _ _ => rfl)) pa_nil)) (xv 1)))
      (pss_cons (ps_asg (pe_op op_divY (pe_ix (ix_k K) (xv 0) pe_int (fun _ _ => rfl)) (xv 1)) (pg_sub (xv 0) pe_int set_list))
      (pss_one (ps_ret (xv 3)))))
      pss_nil)
      (pss_cons (xs_if (xt_cmp op_ltY (pe_ix (ix_k K) (xv 0) pe_int (fun _ _ => rfl)) (pe_callB (cr_lenK K) (by rfl) T.m_len (by decide +kernel) (pa_cons (pe_ix (ix_k K) (xv 0) pe_int (fun _ _ => rfl)) pa_nil)) (nomark _))
      (pss_cons (ps_set (i := 4) sc_pick.nd rfl (.inl rfl) (pe_ix (ix_k K) (pe_ix (ix_k K) (xv 0) pe_int (fun _ _ => rfl)) (pe_ix (ix_k K) (xv 0) pe_int (fun _ _ => rfl)) (fun _ _ => rfl)))
      (pss_cons (ps_asg (pe_op op_addY (pe_ix (ix_k K) (xv 0) pe_int (fun _ _ => rfl)) pe_int) (pg_sub (xv 0) pe_int set_list))
      (pss_cons (ps_set (i := 5) sc_pick.nd rfl (.inl rfl) (pe_callB cr_abs (by rfl) T.m_abs (by decide +kernel) (pa_cons (xv 4) pa_nil)))
      (pss_cons (xs_if (xt_cmp op_geY (xv 5) (pe_op op_powY pe_int pe_int) (nomark _))
      (pss_cons (ps_asg (pe_op op_divY (xv 5) (xv 1)) (pg_sub (xv 0) pe_int set_list))
      (pss_one (ps_ret (pe_op op_modY (pe_callTy cr_int (by rfl) T.m_int (by decide +kernel) (pa_cons (xv 5) pa_nil)) (xv 1)))))
      pss_nil)
      (pss_one (ps_ret (pe_op op_modY (pe_callTy cr_int (by rfl) T.m_int (by decide +kernel) (pa_cons (pe_call G_mixed (hr.mono (by omega)) (by rfl) T.g_mixed T.F_mixed.kp T.b_mixed .nil pass0 (pa_cons (pe_op op_addY (pe_op op_addY (xv 5) (xv 5)) (pe_cmpR op_ltY (xv 4) pe_int (nomark _))) (pa_cons (xv 2) pa_nil))) pa_nil)) (xv 1))))))))
      pss_nil)
      (pss_one (ps_ret (pe_op op_modY (pe_callTy cr_int (by rfl) T.m_int (by decide +kernel) (pa_cons (pe_call G_mixed (hr.mono (by omega)) (by rfl) T.g_mixed T.F_mixed.kp T.b_mixed .nil pass0 (pa_cons (pe_ix (ix_k K) (xv 0) pe_int (fun _ _ => rfl)) (pa_cons (xv 2) pa_nil))) pa_nil)) (xv 1)))))))), ?_⟩
    -- the turn
    refine ⟨_, _, .inl (SqL.of S.hd), rfl, b, _, _, 3, rfl, rfl, S.hd, rfl, ?_⟩
    have S1 := S.set (o' := .lst [.ref N, .int i, .int g, .int (t + 1), .int z])
    -- a great number's rest
    refine ⟨_, _, .inl (SqL.of S1.hd), rfl, fun e => ?_, fun e => ?_⟩
    · refine ⟨_, _, .inl (SqL.of S1.hd), rfl, n0, fun r _ r0 r1 => ?_⟩
      refine ⟨_, _, .inl (SqL.of S1.hd), rfl, ⟨n0, n1⟩, fun d _ d0 => ⟨b, _, _, 2, rfl, rfl, S1.hd, rfl, ?_⟩⟩
      exact q r _ _ r0 r1 ⟨N, ns, i, d, t + 1, z, rfl, hN, i0, d0 g0⟩ S1.set
    -- a new number
    refine ⟨_, _, .inl (SqL.of S1.hd), rfl, _, _, .inl (SqL.of S1.hd), rfl, _, .inl (SqL.of (S1.st hN)), fun e => ?_, fun e => ?_⟩
    · have hi : i < (ns.map V.int).length := of_decide_eq_true e
      obtain ⟨v, hv, hm⟩ := atI_in i0 hi
      obtain ⟨c, _, rfl⟩ := List.mem_map.mp hm
      refine ⟨_, _, .inl (SqL.of S1.hd), rfl, _, _, .inl (SqL.of S1.hd), rfl, _, _, .inl (SqL.of (S1.st hN)), hv, ?_⟩
      refine ⟨_, _, .inl (SqL.of S1.hd), rfl, b, _, _, 1, rfl, rfl, S1.hd, rfl, ?_⟩
      have S2 := S1.set (o' := .lst [.ref N, .int (i + 1), .int g, .int (t + 1), .int z])
      refine ⟨⟨by decide, by decide, by decide⟩, fun p _ => ⟨fun e => ?_, fun e => ?_⟩⟩
      · refine ⟨⟨n0, n1⟩, fun d _ d0 => ⟨b, _, _, 2, rfl, rfl, S2.hd, rfl, n0, fun r _ r0 r1 => ?_⟩⟩
        exact q r _ _ r0 r1 ⟨N, ns, i + 1, d, t + 1, z, rfl, hN, by omega, d0 (by omega)⟩ S2.set
      · refine ⟨_, _, rfl, fun m _ _ => ⟨n0, fun r _ r0 r1 => ?_⟩⟩
        exact q r _ _ r0 r1 ⟨N, ns, i + 1, g, t + 1, z, rfl, hN, by omega, g0⟩ S2
    · refine ⟨_, _, .inl (SqL.of S1.hd), rfl, _, _, rfl, fun m _ _ => ⟨n0, fun r _ r0 r1 => ?_⟩⟩
      exact q r _ _ r0 r1 ⟨N, ns, i, g, t + 1, z, rfl, hN, i0, g0⟩ S1
def spBag (K : PySem.W.Frag) : Sp := fun vs H Q _ => ∃ (G : Hp) (M : List (Addr × HO)) (a : Addr) (ns : List Int), vs = [.ref a] ∧ Sep G M H ∧ SqL K G a (ns.map V.int) ∧ ns.length ≤ 63 ∧
  ∀ (b : Addr) (o : HO) (G' H' : Hp), Same G G' → Bag G' o → Sep G' ((b, o) :: M) H' → Q (.ref b) H'
theorem ok_bag (T : Top K mg) {k : Nat} : FnOk P w K mg base CX0 (k + 1) T.a_bag T.d_bag ["_law_script"] (spBag K) := by
  refine T.F_bag.ok sc_bag (fun vs H Q E h => ?_) (fun cdv A outer s H vs Q E hr h => ?_)
  · obtain ⟨G, M, a, ns, rfl, _⟩ := h
    rfl
  · obtain ⟨G, M, a, ns, rfl, S, hA, hl, q⟩ := h
    refine ⟨_, (pss_cons (ps_setLc (i := 2) (own := [("_law_cell", 1)]) (by rfl) sc_bag.nd rfl rfl (sw_true rfl rfl rfl (by decide +kernel)) (pi_listK K (xv 0)) (blkOk_by (N := ["_law_script", "_law_cell", "_law_numbers", "_law_seed", "_law_at"]) (sc := defScope s_bag) (by decide +kernel)) (fun _ _ _ _ _ => (pg_name (i := 1) sc_bag.nd rfl (.inl rfl))) (fun _ _ _ _ _ => pts_nil) (fun _ _ _ _ _ => (pe_callTy cr_int (by rfl) T.m_int (by decide +kernel) (pa_cons (xv 1) pa_nil))))
      (pss_cons (ps_set (i := 3) sc_bag.nd rfl (.inl rfl) (pe_callB (cr_lenK K) (by rfl) T.m_len (by decide +kernel) (pa_cons (xv 2) pa_nil)))
      (pss_cons (ps_for PassesOwn.never rfl (pi_enum (by rfl) T.m_enumerate (pa_cons (pe_slice (sl_listK K) (xv 2) po_none (po_some pe_int)) pa_nil)) (pg_tup (by rfl) (pgs_cons (pg_name (i := 4) sc_bag.nd rfl (.inl rfl)) (pgs_cons (pg_name (i := 1) sc_bag.nd rfl (.inl rfl)) pgs_nil)))
      (pss_one (ps_set (i := 3) sc_bag.nd rfl (.inl rfl) (pe_op op_modY (pe_callTy cr_int (by rfl) T.m_int (by decide +kernel) (pa_cons (pe_op op_addY (pe_op op_addY (pe_op op_mulY (xv 3) pe_int) (pe_op op_modY (pe_callTy cr_int (by rfl) T.m_int (by decide +kernel) (pa_cons (pe_callB cr_abs (by rfl) T.m_abs (by decide +kernel) (pa_cons (xv 1) pa_nil)) pa_nil)) pe_int)) (pe_op op_mulY (pe_op op_addY (xv 4) pe_int) (pe_cmpR op_ltY (xv 1) pe_int (nomark _)))) pa_nil)) pe_int))))
      (pss_one (ps_ret (pe_lst (pa_cons (xv 2) (pa_cons pe_int (pa_cons pe_int (pa_cons pe_int (pa_cons (xv 3) pa_nil))))))))))), ?_⟩
    refine ⟨a, rfl, ⟨_, S.l hA⟩, fun L nL => lc_pre (xs := ns.map V.int) (fun pre H' => Sep G ((L, .lst pre) :: M) H') (S.new nL) (fun pre H' p => p.l hA) (fun _ => rfl) (fun pre x post H' e p => ?_) (fun H' S1 => ?_)⟩
    · obtain ⟨c, _, rfl⟩ := List.mem_map.mp (show x ∈ ns.map V.int by rw [e]; simp)
      have hz : pre.length ≤ 63 := by
        have z := congrArg List.length e
        rw [List.length_map, List.length_append] at z
        omega
      exact ⟨_, p.hd, smallL (by omega), p.set⟩
    · -- the seed
      have S2 := S1.frz
      have hN : upd G L (.lst (ns.map V.int)) L = some (.lst (ns.map V.int)) := upd_same
      refine ⟨_, .inl (SqL.of (S2.st hN)), ?_⟩
      refine ⟨63, rfl, L, _, rfl, SqL.of (S2.st hN), fun c nc => ?_⟩
      have S3 := S2.newG (o := .lst (cutV (ns.map V.int) none (some 63))) nc
      have s3 := S2.grow (o := .lst (cutV (ns.map V.int) none (some 63))) nc
      refine ⟨c, _, rfl, SqL.of (S3.st upd_same), for_enum (xs := cutV (ns.map V.int) none (some 63)) (fun pre σ H' => ∃ (y1 y4 : Option V) (z : Int) (G' : Hp), σ = [some (.ref a), y1, some (.ref L), some (.int z), y4] ∧
        Same (upd (upd G L (.lst (ns.map V.int))) c (.lst (cutV (ns.map V.int) none (some 63)))) G' ∧ Sep G' M H') ⟨_, _, _, _, rfl, Same.refl _, S3⟩ (fun pre σ H' h => ?_) (fun pre x post σ H' W e h nW => ?_) (fun σ H' h => ?_)⟩
      · obtain ⟨_, _, _, G', _, s4, S4⟩ := h
        exact SqL.of (S4.st (s4 _ _ upd_same))
      · obtain ⟨y1, y4, z, G', rfl, s4, S4⟩ := h
        have hx : x ∈ ns.map V.int := by
          have hm : x ∈ cutV (ns.map V.int) none (some 63) := by rw [e]; simp
          exact List.mem_of_mem_drop (List.mem_of_mem_take hm)
        obtain ⟨v, _, rfl⟩ := List.mem_map.mp hx
        have S5 := S4.newG (o := .tup [.int (pre.length : Nat), .int v]) nW
        refine ⟨.inr ⟨by decide, by decide⟩, by decide, fun r _ r0 r1 => ⟨by decide, fun u _ u0 u1 => ?_⟩⟩
        exact ⟨_, _, _, _, rfl, s4.trans (S4.grow nW), S5⟩
      · obtain ⟨y1, y4, z, G', rfl, s4, S4⟩ := h
        refine ⟨sz, fun b nb => ?_⟩
        exact q b _ G' _ ((S1.frzS).trans (s3.trans s4)) ⟨L, ns, 0, 0, 0, z, rfl, s4 _ _ (s3 _ _ hN), by decide, by decide⟩ (S4.new nb)
def spChoice (K : PySem.W.Frag) : Sp := fun vs H Q _ => ∃ (G : Hp) (M : List (Addr × HO)) (b : Addr) (o : HO) (l : Addr) (xs : List V), vs = [.ref b, .ref l] ∧ Sep G ((b, o) :: M) H ∧ Bag G o ∧ SqL K G l xs ∧ 0 < xs.length ∧ xs.length < 100000 ∧
  ∀ (v : V) (o' : HO) (H' : Hp), v ∈ xs → Bag G o' → Sep G ((b, o') :: M) H' → Q v H'
theorem ok_choice (T : Top K mg) {k : Nat} (G_pick : FnOk P w K mg base CX0 k T.a_pick T.d_pick ["_law_bag_here", "_law_many"] spPick) : FnOk P w K mg base CX0 (k + 1) T.a_choice T.d_choice ["_law_bag_here", "_law_things"] (spChoice K) := by
  refine T.F_choice.ok sc_choice (fun vs H Q E h => ?_) (fun cdv A outer s H vs Q E hr h => ?_)
  · obtain ⟨G, M, b, o, l, xs, rfl, _⟩ := h
    rfl
  · obtain ⟨G, M, b, o, l, xs, rfl, S, B, hl, x0, x1, q⟩ := h
    refine ⟨_, (pss_one (ps_ret (pe_ix (ix_k K) (xv 1) (pe_call G_pick (hr.mono (by omega)) (by rfl) T.g_pick T.F_pick.kp T.b_pick .nil pass0 (pa_cons (xv 0) (pa_cons (pe_callB (cr_lenK K) (by rfl) T.m_len (by decide +kernel) (pa_cons (xv 1) pa_nil)) pa_nil))) (fun _ _ => rfl)))), ?_⟩
    refine ⟨_, .inl (S.l hl), G, M, b, o, _, rfl, S, B, by omega, by omega, fun r o' H' r0 r1 B' S' => ?_⟩
    obtain ⟨v, hv, hm⟩ := atI_in r0 r1
    exact ⟨_, v, .inl (S'.l hl), hv, q v o' H' hm B' S'⟩
def spMingled (K : PySem.W.Frag) : Sp := fun vs H Q _ => ∃ (G : Hp) (M : List (Addr × HO)) (b : Addr) (o : HO) (l : Addr) (xs : List V), vs = [.ref b, .ref l] ∧ Sep G ((b, o) :: M) H ∧ Bag G o ∧ SqL K G l xs ∧ xs.length < 100000 ∧
  ∀ (p : Addr) (ys : List V) (o' : HO) (G' H' : Hp), Same G G' → G' p = some (.lst ys) → (∀ y ∈ ys, y ∈ xs) → ys.length ≤ xs.length → Bag G' o' → Sep G' ((b, o') :: M) H' → Q (.ref p) H'
theorem ok_mingled (T : Top K mg) {k : Nat} (G_pick : FnOk P w K mg base CX0 k T.a_pick T.d_pick ["_law_bag_here", "_law_many"] spPick) : FnOk P w K mg base CX0 (k + 1) T.a_mingled T.d_mingled ["_law_bag_here", "_law_things"] (spMingled K) := by
  refine T.F_mingled.ok sc_mingled (fun vs H Q E h => ?_) (fun cdv A outer s H vs Q E hr h => ?_)
  · obtain ⟨G, M, b, o, l, xs, rfl, _⟩ := h
    rfl
  · obtain ⟨G, M, b, o, l, xs, rfl, S, B, hl, x1, q⟩ := h
    refine ⟨_, (pss_cons (ps_set (i := 2) sc_mingled.nd rfl (.inl rfl) (pe_callTy (call_listK K) (by rfl) T.m_list (by decide +kernel) (pa_cons (xv 1) pa_nil)))
      (pss_cons (ps_set (i := 3) sc_mingled.nd rfl (.inl rfl) (pe_lst pa_nil))
      (pss_cons (ps_for PassesOwn.never rfl (pi_range1 (by rfl) T.m_range (pa_cons (pe_callB (cr_lenK K) (by rfl) T.m_len (by decide +kernel) (pa_cons (xv 1) pa_nil)) pa_nil)) (pg_name (i := 4) sc_mingled.nd rfl (.inl rfl))
      (pss_one (ps_expr (pe_bmK K PySem.F.plainAttrs_list PySem.F.slot_list_append PySem.F.type_list_append mt_append (xv 3) (pa_cons (pe_bmK K PySem.F.plainAttrs_list PySem.F.slot_list_pop PySem.F.type_list_pop mt_popAt (xv 2) (pa_cons (pe_call G_pick (hr.mono (by omega)) (by rfl) T.g_pick T.F_pick.kp T.b_pick .nil pass0 (pa_cons (xv 0) (pa_cons (pe_callB (cr_lenK K) (by rfl) T.m_len (by decide +kernel) (pa_cons (xv 2) pa_nil)) pa_nil))) pa_nil)) pa_nil)))))
      (pss_one (ps_ret (xv 3)))))), ?_⟩
    refine ⟨l, xs, rfl, .inl (S.l hl), fun L nL => ?_⟩
    have S1 := S.new (o := .lst xs) nL
    refine ⟨sz, fun O nO => ?_⟩
    have S2 := S1.new (o := .lst []) nO
    refine ⟨_, .inl (S2.l hl), _, rfl, by omega, by omega, for_range (lo := 0) (n := (xs.length : Int).toNat) (fun i σ H' => ∃ (y4 : Option V) (o' : HO) (ls os : List V), σ = [some (.ref b), some (.ref l), some (.ref L), some (.ref O), y4] ∧
      Bag G o' ∧ Sep G ((O, .lst os) :: (L, .lst ls) :: (b, o') :: M) H' ∧ ls.length + i = xs.length ∧ os.length = i ∧ (∀ y ∈ ls, y ∈ xs) ∧ (∀ y ∈ os, y ∈ xs)) ?_ (fun i σ H' hi h => ?_) (fun σ H' h => ?_)⟩
    · exact ⟨_, o, xs, [], rfl, B, S2, by omega, rfl, fun _ h => h, fun _ h => nomatch h⟩
    · obtain ⟨y4, o', ls, os, rfl, B', S3, e1, e2, m1, m2⟩ := h
      have S4 := (S3.sw).perm (List.Perm.cons _ (List.Perm.swap _ _ _))
      have S5 := S4.sw
      -- out.append(left.pop(pick(bag, len(left))))
      refine ⟨.inl ⟨rfl, _, SqL.of S3.hd⟩, .inl ⟨rfl, _, SqL.of S4.hd⟩, _, .inl (SqL.of S4.hd), G, _, b, o', _, rfl, S5, B', by omega, by omega, fun r o2 H2 r0 r1 B2 S6 => ?_⟩
      have S7 := S6.sw
      obtain ⟨v, hv, hm⟩ := atI_in r0 r1
      have S8 := S7.set (o' := .lst (ls.eraseIdx r.toNat))
      have S9 := (S8.perm (List.Perm.cons _ (List.Perm.swap _ _ _))).sw
      refine ⟨L, ls, r, r.toNat, v, rfl, rfl, S7.hd, by omega, by omega, seqIdx r0 r1, atN r0 hv, O, os, v, rfl, rfl, S9.hd, smallL (by omega), ?_⟩
      refine ⟨_, o2, ls.eraseIdx r.toNat, os ++ [v], rfl, B2, S9.set, ?_, ?_, fun y hy => m1 y (mem_erase hy), fun y hy => ?_⟩
      · rw [List.length_eraseIdx_of_lt (by omega)]
        omega
      · rw [List.length_append, e2]
        rfl
      · rcases List.mem_append.mp hy with hy | hy
        · exact m2 y hy
        · rw [List.mem_singleton.mp hy]
          exact m1 v hm
    · obtain ⟨y4, o', ls, os, rfl, B', S3, e1, e2, m1, m2⟩ := h
      have S4 := ((S3.frz).drop)
      exact q O os o' _ _ S3.frzS upd_same m2 (by omega) (B'.same S3.frzS) S4
/-! ### texts and labels -/
def spNumber : Sp := fun vs H Q _ => ∃ i : Int, vs = [.int i] ∧ Q (.bl true) H
theorem ok_number (T : Top K mg) {k : Nat} : FnOk P w K mg base CX0 (k + 1) T.a_number T.d_number ["_law_thing"] spNumber := by
  refine T.F_number.ok sc_number (fun vs H Q E h => ?_) (fun cdv A outer s H vs Q E hr h => ?_)
  · obtain ⟨i, rfl, _⟩ := h
    rfl
  · obtain ⟨i, rfl, q⟩ := h
    refine ⟨_, (pss_one (ps_ret (xe_and (pe_callB (call_isK K) (by rfl) T.m_isinstance (by decide +kernel) (pa_cons (xv 0) (pa_cons (pe_bltn (v := .ty "int") (by rfl) T.m_int (by decide +kernel) rfl) pa_nil))) (pe_one (xe_not (pe_callB (call_isK K) (by rfl) T.m_isinstance (by decide +kernel) (pa_cons (xv 0) (pa_cons (pe_bltn (v := .ty "bool") (by rfl) T.m_bool (by decide +kernel) rfl) pa_nil)))))))), ?_⟩
    refine ⟨_, _, _, _, true, rfl, .ty _, .base (.int _), kit_ty (by decide +kernel), fun _ => ⟨_, _, _, _, false, rfl, .ty _, .base (.int _), kit_ty (by decide +kernel), ?_⟩, fun e => nomatch e⟩
    exact q
def spText : Sp := fun vs H Q _ => ∃ (G : Hp) (M : List (Addr × HO)) (b : Addr) (o : HO) (l m : Int), vs = [.ref b, .int l, .int m] ∧ Sep G ((b, o) :: M) H ∧ Bag G o ∧ 0 ≤ l ∧ l ≤ m ∧ m ≤ 1000 ∧
  ∀ (z : Str) (o' : HO) (H' : Hp), (z.length : Int) ≤ m → Bag G o' → Sep G ((b, o') :: M) H' → Q (.str z) H'
theorem ok_text (T : Top K mg) {k : Nat} (G_pick : FnOk P w K mg base CX0 k T.a_pick T.d_pick ["_law_bag_here", "_law_many"] spPick) : FnOk P w K mg base CX0 (k + 1) T.a_text T.d_text ["_law_bag_here", "_law_least", "_law_most"] spText := by
  refine T.F_text.ok sc_text (fun vs H Q E h => ?_) (fun cdv A outer s H vs Q E hr h => ?_)
  · obtain ⟨G, M, b, o, l, m, rfl, _⟩ := h
    rfl
  · obtain ⟨G, M, b, o, l, m, rfl, S, B, l0, l1, m1, q⟩ := h
    refine ⟨_, (pss_cons (ps_set (i := 3) sc_text.nd rfl (.inl rfl) pe_str)
      (pss_cons (ps_set (i := 3) sc_text.nd rfl (.inl rfl) (pe_op op_addY (xv 3) pe_str))
      (pss_cons (ps_set (i := 4) sc_text.nd rfl (.inl rfl) pe_str)
      (pss_cons (ps_for PassesOwn.never rfl (pi_range1 (by rfl) T.m_range (pa_cons (pe_op op_addY (xv 1) (pe_call G_pick (hr.mono (by omega)) (by rfl) T.g_pick T.F_pick.kp T.b_pick .nil pass0 (pa_cons (xv 0) (pa_cons (pe_op op_addY (pe_op op_subY (xv 2) (xv 1)) pe_int) pa_nil)))) pa_nil)) (pg_name (i := 5) sc_text.nd rfl (.inl rfl))
      (pss_one (ps_set (i := 4) sc_text.nd rfl (.inl rfl) (pe_op op_addY (xv 4) (pe_ix (ix_k K) (xv 3) (pe_call G_pick (hr.mono (by omega)) (by rfl) T.g_pick T.F_pick.kp T.b_pick .nil pass0 (pa_cons (xv 0) (pa_cons (pe_callB (cr_lenK K) (by rfl) T.m_len (by decide +kernel) (pa_cons (xv 3) pa_nil)) pa_nil))) (fun _ _ => rfl))))))
      (pss_one (ps_ret (xv 4))))))), ?_⟩
    refine ⟨by decide +kernel, fun sg hsg => ?_⟩
    have hlen : sg.length = 94 := by rw [hsg]; decide +kernel
    refine ⟨G, M, b, o, _, rfl, S, B, by omega, by omega, fun r o1 H1 r0 r1 B1 S1 => ?_⟩
    refine ⟨_, rfl, by omega, by omega, for_range (lo := 0) (n := (l + r).toNat) (fun i σ H' => ∃ (y5 : Option V) (z : Str) (o' : HO), σ = [some (.ref b), some (.int l), some (.int m), some (.str sg), some (.str z), y5] ∧ z.length = i ∧
      Bag G o' ∧ Sep G ((b, o') :: M) H') ⟨_, _, o1, rfl, rfl, B1, S1⟩ (fun i σ H' hi h => ?_) (fun σ H' h => ?_)⟩
    · obtain ⟨y5, z, o', rfl, hz, B', S'⟩ := h
      refine ⟨small (by omega), G, M, b, o', _, rfl, S', B', by omega, by omega, fun r2 o2 H2 r20 r21 B2 S2 => ?_⟩
      obtain ⟨c, hc, _⟩ := atI_in (xs := sg.cps.toList) r20 (by rw [Array.length_toList]; exact r21)
      refine ⟨c, small (by omega), hc, ?_, fun z2 hz2 => ?_⟩
      · rw [hz]
        exact small (by show i + 1 ≤ 100000; omega)
      · refine ⟨_, z2, o2, rfl, ?_, B2, S2⟩
        rw [hz2, PySem.Str.length_append, hz]
        rfl
    · obtain ⟨y5, z, o', rfl, hz, B', S'⟩ := h
      exact q z o' H' (by omega) B' S'
theorem digit_len {r : Int} (h0 : 0 ≤ r) (h1 : r < 10) : (toString r : Str).length = 1 := by
  have h : r = 0 ∨ r = 1 ∨ r = 2 ∨ r = 3 ∨ r = 4 ∨ r = 5 ∨ r = 6 ∨ r = 7 ∨ r = 8 ∨ r = 9 := by omega
  rcases h with rfl | rfl | rfl | rfl | rfl | rfl | rfl | rfl | rfl | rfl <;> decide +kernel
def spLabel : Sp := fun vs H Q _ => ∃ (G : Hp) (M : List (Addr × HO)) (b : Addr) (o : HO), vs = [.ref b] ∧ Sep G ((b, o) :: M) H ∧ Bag G o ∧
  ∀ (z : Str) (o' : HO) (G' H' : Hp), z.length ≤ 100 → Same G G' → Bag G' o' → Sep G' ((b, o') :: M) H' → Q (.str z) H'
theorem ok_label (T : Top K mg) {k : Nat} (G_pick : FnOk P w K mg base CX0 k T.a_pick T.d_pick ["_law_bag_here", "_law_many"] spPick) (G_text : FnOk P w K mg base CX0 (k + 1) T.a_text T.d_text ["_law_bag_here", "_law_least", "_law_most"] spText)
    (G_choice : FnOk P w K mg base CX0 (k + 1) T.a_choice T.d_choice ["_law_bag_here", "_law_things"] (spChoice K)) : FnOk P w K mg base CX0 (k + 2) T.a_label T.d_label ["_law_bag_here"] spLabel := by
  refine T.F_label.ok sc_label (fun vs H Q E h => ?_) (fun cdv A outer s H vs Q E hr h => ?_)
  · obtain ⟨G, M, b, o, rfl, _⟩ := h
    rfl
  · obtain ⟨G, M, b, o, rfl, S, B, q⟩ := h
    refine ⟨_, (pss_cons (ps_set (i := 1) sc_label.nd rfl (.inl rfl) (pe_call G_pick (hr.mono (by omega)) (by rfl) T.g_pick T.F_pick.kp T.b_pick .nil pass0 (pa_cons (xv 0) (pa_cons pe_int pa_nil))))
      (pss_cons (xs_if (xt_cmp op_ltY (xv 1) pe_int (nomark _))
      (pss_one (ps_ret pe_str))
      pss_nil)
      (pss_cons (xs_if (xt_cmp (op_eqK K hr.units) (xv 1) pe_int (nomark _))
      (pss_one (ps_ret pe_str))
      pss_nil)
      (pss_cons (xs_if (xt_cmp op_ltY (xv 1) pe_int (nomark _))
      (pss_one (ps_ret (pe_op op_addY pe_str (pe_callTy cr_strI (by rfl) T.m_str (by decide +kernel) (pa_cons (pe_call G_pick (hr.mono (by omega)) (by rfl) T.g_pick T.F_pick.kp T.b_pick .nil pass0 (pa_cons (xv 0) (pa_cons pe_int pa_nil))) pa_nil)))))
      pss_nil)
      (pss_cons (xs_if (xt_cmp (op_eqK K hr.units) (xv 1) pe_int (nomark _))
      (pss_one (ps_ret (pe_op op_addY pe_str (pe_call G_text (hr.mono (by omega)) (by rfl) T.g_text T.F_text.kp T.b_text .nil pass0 (pa_cons (xv 0) (pa_cons pe_int (pa_cons pe_int pa_nil)))))))
      pss_nil)
      (pss_cons (xs_if (xt_cmp (op_eqK K hr.units) (xv 1) pe_int (nomark _))
      (pss_one (ps_ret (pe_call G_choice (hr.mono (by omega)) (by rfl) T.g_choice T.F_choice.kp T.b_choice .nil pass0 (pa_cons (xv 0) (pa_cons (pe_lst (pa_cons pe_str (pa_cons pe_str (pa_cons pe_str (pa_cons pe_str (pa_cons pe_str (pa_cons pe_str (pa_cons pe_str (pa_cons pe_str (pa_cons pe_str (pa_cons pe_str (pa_cons pe_str (pa_cons pe_str (pa_cons pe_str (pa_cons pe_str (pa_cons pe_str (pa_cons pe_str (pa_cons pe_str (pa_cons pe_str (pa_cons pe_str pa_nil)))))))))))))))))))) pa_nil)))))
      pss_nil)
      (pss_one (ps_ret (pe_call G_text (hr.mono (by omega)) (by rfl) T.g_text T.F_text.kp T.b_text .nil pass0 (pa_cons (xv 0) (pa_cons pe_int (pa_cons pe_int pa_nil)))))))))))), ?_⟩
    refine ⟨G, M, b, o, _, rfl, S, B, by omega, by omega, fun r o1 H1 r0 r1 B1 S1 => ?_⟩
    have sr := Same.refl G
    refine ⟨fun e => ?_, fun e => ⟨fun e => ?_, fun e => ⟨fun e => ?_, fun e => ⟨fun e => ?_, fun e => ⟨fun e => ?_, fun e => ?_⟩⟩⟩⟩⟩
    · exact q _ o1 G _ (by decide +kernel) sr B1 S1
    · exact q _ o1 G _ (by decide +kernel) sr B1 S1
    · refine ⟨G, M, b, o1, _, rfl, S1, B1, by omega, by omega, fun r2 o2 H2 r20 r21 B2 S2 => ?_⟩
      have e1 := digit_len r20 r21
      refine ⟨?_, ?_, fun z hz => q z o2 G _ ?_ sr B2 S2⟩
      · have h : r2 = 0 ∨ r2 = 1 ∨ r2 = 2 ∨ r2 = 3 ∨ r2 = 4 ∨ r2 = 5 ∨ r2 = 6 ∨ r2 = 7 ∨ r2 = 8 ∨ r2 = 9 := by omega
        rcases h with rfl | rfl | rfl | rfl | rfl | rfl | rfl | rfl | rfl | rfl <;> decide +kernel
      · rw [e1]
        decide +kernel
      · rw [hz, PySem.Str.length_append, e1]
        decide +kernel
    · refine ⟨G, M, b, o1, 0, 13, rfl, S1, B1, by omega, by omega, by omega, fun z o2 H2 hz B2 S2 => ?_⟩
      have e1 : ("button " : Str).length = 7 := by decide +kernel
      refine ⟨?_, fun z2 hz2 => q z2 o2 G _ ?_ sr B2 S2⟩
      · rw [e1]
        exact small (by omega)
      · rw [hz2, PySem.Str.length_append, e1]
        omega
    · refine ⟨sz, fun p np => ?_⟩
      refine ⟨_, M, b, o1, p, _, rfl, S1.newG np, B1.same (S1.grow np), SqL.of upd_same, by decide, by decide, fun v o2 H2 hv B2 S2 => ?_⟩
      have hz : ∃ z : Str, v = .str z ∧ z.length ≤ 100 := by
        simp only [List.mem_cons, List.not_mem_nil, or_false] at hv
        rcases hv with rfl | rfl | rfl | rfl | rfl | rfl | rfl | rfl | rfl | rfl | rfl | rfl | rfl | rfl | rfl | rfl | rfl | rfl | rfl <;> exact ⟨_, rfl, by decide +kernel⟩
      obtain ⟨z, rfl, hz⟩ := hz
      exact q z o2 _ _ hz (S1.grow np) B2 S2
    · refine ⟨G, M, b, o1, 1, 20, rfl, S1, B1, by omega, by omega, by omega, fun z o2 H2 hz B2 S2 => ?_⟩
      exact q z o2 G _ (by omega) sr B2 S2
/-! ### pairs -/
def Pr (G : Hp) (v : V) (p : Int × Int) : Prop := ∃ a, v = .ref a ∧ G a = some (.tup [.int p.1, .int p.2])
theorem Pr.same {G G' : Hp} (e : Same G G') {v : V} {p : Int × Int} (h : Pr G v p) : Pr G' v p := by
  obtain ⟨a, h1, h2⟩ := h
  exact ⟨a, h1, e _ _ h2⟩
def spPair : Sp := fun vs H Q _ => ∃ (G : Hp) (M : List (Addr × HO)) (b : Addr) (o : HO) (x y : Int), vs = [.ref b, .int x, .int y] ∧ Sep G ((b, o) :: M) H ∧ Bag G o ∧ 0 ≤ x ∧ x < 1000 ∧ 0 ≤ y ∧ y < 1000 ∧
  ∀ (v : V) (p : Int × Int) (o' : HO) (G' H' : Hp), Pr G' v p → Same G G' → Bag G' o' → Sep G' ((b, o') :: M) H' → Q v H'
theorem ok_pair (T : Top K mg) {k : Nat} (G_pick : FnOk P w K mg base CX0 k T.a_pick T.d_pick ["_law_bag_here", "_law_many"] spPick) : FnOk P w K mg base CX0 (k + 1) T.a_pair T.d_pair ["_law_bag_here", "_law_wide", "_law_high"] spPair := by
  refine T.F_pair.ok sc_pair (fun vs H Q E h => ?_) (fun cdv A outer s H vs Q E hr h => ?_)
  · obtain ⟨G, M, b, o, x, y, rfl, _⟩ := h
    rfl
  · obtain ⟨G, M, b, o, x, y, rfl, S, B, x0, x1, y0, y1, q⟩ := h
    refine ⟨_, (pss_cons (ps_set (i := 3) sc_pair.nd rfl (.inl rfl) (pe_call G_pick (hr.mono (by omega)) (by rfl) T.g_pick T.F_pick.kp T.b_pick .nil pass0 (pa_cons (xv 0) (pa_cons (pe_op op_addY (xv 1) pe_int) pa_nil))))
      (pss_cons (ps_set (i := 4) sc_pair.nd rfl (.inl rfl) (pe_call G_pick (hr.mono (by omega)) (by rfl) T.g_pick T.F_pick.kp T.b_pick .nil pass0 (pa_cons (xv 0) (pa_cons (pe_op op_addY (xv 2) pe_int) pa_nil))))
      (pss_cons (xs_if (PW.pt (xw_or (xt_cmp (op_eqK K hr.units) (xv 3) pe_int (nomark _)) (pw_or1 (xt_cmp (op_eqK K hr.units) (xv 4) pe_int (nomark _)))))
      (pss_one (ps_ret (pe_tup (pa_cons pe_int (pa_cons pe_int pa_nil)))))
      pss_nil)
      (pss_one (ps_ret (pe_tup (pa_cons (xv 3) (pa_cons (xv 4) pa_nil)))))))), ?_⟩
    refine ⟨G, M, b, o, _, rfl, S, B, by omega, by omega, fun r1 o1 H1 r10 r11 B1 S1 => ?_⟩
    refine ⟨G, M, b, o1, _, rfl, S1, B1, by omega, by omega, fun r2 o2 H2 r20 r21 B2 S2 => ?_⟩
    have zero : ∀ (p : Addr) (u v : Int), H2 p = none → Q (.ref p) (upd H2 p (.tup [.int u, .int v])) := fun p u v np =>
      q (.ref p) (u, v) o2 _ _ ⟨p, rfl, upd_same⟩ (S2.grow np) (B2.same (S2.grow np)) (S2.newG np)
    refine ⟨fun _ => ⟨fun _ => ⟨sz, fun p np => zero p _ _ np⟩, fun _ => ⟨sz, fun p np => zero p _ _ np⟩⟩, fun _ => ⟨fun _ => ⟨sz, fun p np => zero p _ _ np⟩, fun _ => ⟨sz, fun p np => zero p _ _ np⟩⟩⟩
end
end K16
set_option Elab.async false
set_option linter.all false
set_option maxRecDepth 100000
set_option maxHeartbeats 4000000
namespace K16
open PySem PySem.Spec PyProof.Rows L2 XL
/-! ### the mathematics -/
def stp (z : Str) (a p : Int × Int) : Int × Int := if z = "row" then (a.1 + p.1, if a.2 < p.2 then p.2 else a.2) else (if a.1 < p.1 then p.1 else a.1, a.2 + p.2)
def msr (z : Str) (ps : List (Int × Int)) : Int × Int := if ps = [] then (if z = "row" ∨ z = "col" then (0, 0) else (z.length, 1)) else ps.foldl (stp z) (0, 0)
def mxs (a p : Int × Int) : Int × Int := (if a.1 < p.1 then p.1 else a.1, if a.2 < p.2 then p.2 else a.2)
theorem fold_row : ∀ (ps : List (Int × Int)) (x y v : Int), ps.foldl (stp "row") (x, y) = (x + (ps.map (·.1)).sum, (ps.foldl mxs (v, y)).2)
  | [], x, y, v => by simp
  | p :: r, x, y, v => by
    rw [List.foldl_cons, List.foldl_cons, List.map_cons, List.sum_cons]
    have e : stp "row" (x, y) p = (x + p.1, if y < p.2 then p.2 else y) := by unfold stp; rw [if_pos rfl]
    rw [e, fold_row r _ _ (if v < p.1 then p.1 else v)]
    unfold mxs
    simp only
    rw [Int.add_assoc]
theorem fold_col {z : Str} (h : z ≠ "row") : ∀ (ps : List (Int × Int)) (x y v : Int), ps.foldl (stp z) (x, y) = ((ps.foldl mxs (x, v)).1, y + (ps.map (·.2)).sum)
  | [], x, y, v => by simp
  | p :: r, x, y, v => by
    rw [List.foldl_cons, List.foldl_cons, List.map_cons, List.sum_cons]
    have e : stp z (x, y) p = (if x < p.1 then p.1 else x, y + p.2) := by unfold stp; rw [if_neg h]
    rw [e, fold_col h r _ _ (if v < p.2 then p.2 else v)]
    unfold mxs
    simp only
    rw [Int.add_assoc]
section
variable {P : Program} {w : World} {K : PySem.W.Frag} {mg : Str → Option Value} {base : Heap}
def spMeasure (K : PySem.W.Frag) : Sp := fun as H Q _ => ∃ (G : Hp) (M : List (Addr × HO)) (z : Str) (t : Addr) (vs : List V) (ps : List (Int × Int)), as = [.str z, .ref t] ∧ Sep G M H ∧ z.length ≤ 100 ∧ G t = some (.tup vs) ∧ Paired (Pr G) vs ps ∧
  ∀ (v : V) (G' H' : Hp), Pr G' v (msr z ps) → Same G G' → Sep G' M H' → Q v H'
theorem ok_measure (T : Top K mg) {k : Nat} : FnOk P w K mg base CX0 (k + 1) T.a_measure T.d_measure ["label", "sizes"] (spMeasure K) := by
  refine T.F_measure.ok sc_measure (fun vs H Q E h => ?_) (fun cdv A outer s H vs Q E hr h => ?_)
  · obtain ⟨G, M, z, t, vs, ps, rfl, _⟩ := h
    rfl
  · obtain ⟨G, M, z, t, vs, ps, rfl, S, hz, ht, hp, q⟩ := h
    refine ⟨_, (pss_cons (xs_if (pt_not (xt_truK K (xv 1)))
      (pss_cons (xs_if (PW.pt (xw_or (xt_cmp (op_eqK K hr.units) (xv 0) pe_str (nomark _)) (pw_or1 (xt_cmp (op_eqK K hr.units) (xv 0) pe_str (nomark _)))))
      (pss_one (ps_ret (pe_tup (pa_cons pe_int (pa_cons pe_int pa_nil)))))
      pss_nil)
      (pss_one (ps_ret (pe_tup (pa_cons (pe_callB (cr_lenK K) (by rfl) T.m_len (by decide +kernel) (pa_cons (xv 0) pa_nil)) (pa_cons pe_int pa_nil))))))
      pss_nil)
      (pss_cons (ps_set (i := 2) sc_measure.nd rfl (.inl rfl) pe_int)
      (pss_cons (ps_set (i := 3) sc_measure.nd rfl (.inl rfl) pe_int)
      (pss_cons (ps_for PassesOwn.never rfl (pi_tupK K (xv 1)) (pg_tup (by rfl) (pgs_cons (pg_name (i := 4) sc_measure.nd rfl (.inl rfl)) (pgs_cons (pg_name (i := 5) sc_measure.nd rfl (.inl rfl)) pgs_nil)))
      (pss_one (xs_if (xt_cmp (op_eqK K hr.units) (xv 0) pe_str (nomark _))
      (pss_cons (ps_set (i := 2) sc_measure.nd rfl (.inl rfl) (pe_op op_addY (xv 2) (xv 4)))
      (pss_one (xs_if (xt_cmp op_gtY (xv 5) (xv 3) (nomark _))
      (pss_one (ps_set (i := 3) sc_measure.nd rfl (.inl rfl) (xv 5)))
      pss_nil)))
      (pss_cons (ps_set (i := 3) sc_measure.nd rfl (.inl rfl) (pe_op op_addY (xv 3) (xv 5)))
      (pss_one (xs_if (xt_cmp op_gtY (xv 4) (xv 2) (nomark _))
      (pss_one (ps_set (i := 2) sc_measure.nd rfl (.inl rfl) (xv 4)))
      pss_nil))))))
      (pss_one (ps_ret (pe_tup (pa_cons (xv 2) (pa_cons (xv 3) pa_nil))))))))), ?_⟩
    have ret : ∀ (p : Addr) (u v : Int), (u, v) = msr z ps → H p = none → Q (.ref p) (upd H p (.tup [.int u, .int v])) := fun p u v e np =>
      q (.ref p) _ _ ⟨p, rfl, by rw [← e]; exact upd_same⟩ (S.grow np) (S.newG np)
    refine ⟨!vs.isEmpty, .inr (.inl ⟨vs, SqT.of (S.st ht), rfl⟩), fun e => ?_, fun e => ?_⟩
    · -- no children
      have ev : vs = [] := by cases vs with
        | nil => rfl
        | cons _ _ => exact nomatch e
      subst ev
      cases hp
      refine ⟨fun e => ⟨fun _ => ⟨sz, fun p np => ret p _ _ ?_ np⟩, fun e => nomatch e⟩, fun e => ⟨fun e2 => ⟨sz, fun p np => ret p _ _ ?_ np⟩, fun e2 => ⟨small (by omega), sz, fun p np => ret p _ _ ?_ np⟩⟩⟩
      · unfold msr
        rw [if_pos rfl, if_pos (.inl (of_decide_eq_true e))]
      · unfold msr
        rw [if_pos rfl, if_pos (.inr (of_decide_eq_true e2))]
      · unfold msr
        rw [if_pos rfl, if_neg]
        rintro (h | h)
        · exact of_decide_eq_false e h
        · exact of_decide_eq_false e2 h
    · have hne : ps ≠ [] := by
        rintro rfl
        cases hp
        exact nomatch e
      refine ⟨t, rfl, ⟨vs, SqT.of (S.st ht)⟩, for_tup (xs := vs) (fun i σ H' => ∃ y4 y5, σ = [some (.str z), some (.ref t), some (.int ((ps.take i).foldl (stp z) (0, 0)).1), some (.int ((ps.take i).foldl (stp z) (0, 0)).2), y4, y5] ∧ H' = H)
        ⟨_, _, rfl, rfl⟩ (fun i σ H' _ h => ?_) (fun i x σ H' hx h => ?_) (fun σ H' h => ?_)⟩
      · obtain ⟨_, _, _, rfl⟩ := h
        exact SqT.of (S.st ht)
      · obtain ⟨y4, y5, rfl, rfl⟩ := h
        obtain ⟨p, hpi, a, rfl, ha⟩ := prd_get hp hx
        have e1 := take_snoc hpi
        generalize hA : (ps.take i).foldl (stp z) (0, 0) = A at *
        have e2 : (ps.take (i + 1)).foldl (stp z) (0, 0) = stp z A p := by rw [e1, List.foldl_append, hA]; rfl
        refine ⟨a, _, rfl, SqT.of (S.st ha), rfl, _, _, rfl, _, _, rfl, rfl, fun e => ⟨fun e3 => ?_, fun e3 => ?_⟩, fun e => ⟨fun e3 => ?_, fun e3 => ?_⟩⟩
        · refine ⟨some (.int p.1), some (.int p.2), ?_, rfl⟩
          rw [e2]
          unfold stp
          rw [if_pos (of_decide_eq_true e), if_pos (of_decide_eq_true e3)]
          rfl
        · refine ⟨some (.int p.1), some (.int p.2), ?_, rfl⟩
          rw [e2]
          unfold stp
          rw [if_pos (of_decide_eq_true e), if_neg (of_decide_eq_false e3)]
          rfl
        · refine ⟨some (.int p.1), some (.int p.2), ?_, rfl⟩
          rw [e2]
          unfold stp
          rw [if_neg (of_decide_eq_false e), if_pos (of_decide_eq_true e3)]
          rfl
        · refine ⟨some (.int p.1), some (.int p.2), ?_, rfl⟩
          rw [e2]
          unfold stp
          rw [if_neg (of_decide_eq_false e), if_neg (of_decide_eq_false e3)]
          rfl
      · obtain ⟨y4, y5, rfl, rfl⟩ := h
        rw [prd_len hp, List.take_length]
        refine ⟨sz, fun p np => ret p _ _ ?_ np⟩
        unfold msr
        rw [if_neg hne]
def spDue (K : PySem.W.Frag) : Sp := fun as H Q _ => ∃ (G : Hp) (M : List (Addr × HO)) (z : Str) (t : Addr) (vs : List V) (ps : List (Int × Int)), as = [.str z, .ref t] ∧ Sep G M H ∧ z.length ≤ 100 ∧ G t = some (.lst vs) ∧ Paired (Pr G) vs ps ∧ vs.length ≤ 10000 ∧
  ∀ (v : V) (G' H' : Hp), Pr G' v (msr z ps) → Same G G' → Sep G' M H' → Q v H'
theorem ok_due (T : Top K mg) {k : Nat} : FnOk P w K mg base CX0 (k + 1) T.a_due T.d_due ["_law_label_here", "_law_pairs"] (spDue K) := by
  refine T.F_due.ok sc_due (fun vs H Q E h => ?_) (fun cdv A outer s H vs Q E hr h => ?_)
  · obtain ⟨G, M, z, t, vs, ps, rfl, _⟩ := h
    rfl
  · obtain ⟨G, M, z, t, vs, ps, rfl, S, hz, ht, hp, hv, q⟩ := h
    refine ⟨_, (pss_cons (xs_if (xt_cmp (op_eqK K hr.units) (pe_callB (cr_lenK K) (by rfl) T.m_len (by decide +kernel) (pa_cons (xv 1) pa_nil)) pe_int (nomark _))
      (pss_cons (xs_if (PW.pt (xw_or (xt_cmp (op_eqK K hr.units) (xv 0) pe_str (nomark _)) (pw_or1 (xt_cmp (op_eqK K hr.units) (xv 0) pe_str (nomark _)))))
      (pss_one (ps_ret (pe_tup (pa_cons pe_int (pa_cons pe_int pa_nil)))))
      pss_nil)
      (pss_one (ps_ret (pe_tup (pa_cons (pe_callB (cr_lenK K) (by rfl) T.m_len (by decide +kernel) (pa_cons (xv 0) pa_nil)) (pa_cons pe_int pa_nil))))))
      pss_nil)
      (pss_cons (ps_set (i := 2) sc_due.nd rfl (.inl rfl) pe_int)
      (pss_cons (ps_set (i := 3) sc_due.nd rfl (.inl rfl) pe_int)
      (pss_cons (ps_for PassesOwn.never rfl (pi_listK K (xv 1)) (pg_name (i := 4) sc_due.nd rfl (.inl rfl))
      (pss_cons (xs_if (xt_cmp op_gtY (pe_ix (ix_k K) (xv 4) pe_int (fun _ _ => rfl)) (xv 2) (nomark _))
      (pss_one (ps_set (i := 2) sc_due.nd rfl (.inl rfl) (pe_ix (ix_k K) (xv 4) pe_int (fun _ _ => rfl))))
      pss_nil)
      (pss_one (xs_if (xt_cmp op_gtY (pe_ix (ix_k K) (xv 4) pe_int (fun _ _ => rfl)) (xv 3) (nomark _))
      (pss_one (ps_set (i := 3) sc_due.nd rfl (.inl rfl) (pe_ix (ix_k K) (xv 4) pe_int (fun _ _ => rfl))))
      pss_nil))))
      (pss_cons (xs_if (xt_cmp (op_eqK K hr.units) (xv 0) pe_str (nomark _))
      (pss_one (ps_ret (pe_tup (pa_cons (pe_callB (cr_sumK K rfl) (by rfl) T.m_sum (by decide +kernel) (pa_cons (pe_lc (own := [("_law_pair_here", 4)]) (by rfl) sc_due.nd (pi_listK K (xv 1)) (blkOk_by (N := ["_law_label_here", "_law_pairs", "_law_widest", "_law_highest", "_law_pair_here"]) (sc := defScope s_due) (by decide +kernel)) (fun _ _ _ _ _ => (pg_name (i := 4) sc_due.nd rfl (.inl rfl))) (fun _ _ _ _ _ => pts_nil) (fun _ _ _ _ _ => (pe_ix (ix_k K) (xv 4) pe_int (fun _ _ => rfl)))) pa_nil)) (pa_cons (xv 3) pa_nil)))))
      pss_nil)
      (pss_one (ps_ret (pe_tup (pa_cons (xv 2) (pa_cons (pe_callB (cr_sumK K rfl) (by rfl) T.m_sum (by decide +kernel) (pa_cons (pe_lc (own := [("_law_pair_here", 4)]) (by rfl) sc_due.nd (pi_listK K (xv 1)) (blkOk_by (N := ["_law_label_here", "_law_pairs", "_law_widest", "_law_highest", "_law_pair_here"]) (sc := defScope s_due) (by decide +kernel)) (fun _ _ _ _ _ => (pg_name (i := 4) sc_due.nd rfl (.inl rfl))) (fun _ _ _ _ _ => pts_nil) (fun _ _ _ _ _ => (pe_ix (ix_k K) (xv 4) pe_int (fun _ _ => rfl)))) pa_nil)) pa_nil)))))))))), ?_⟩
    have hS : SqL K G t vs := SqL.of ht
    have ret : ∀ (G1 H1 : Hp) (p : Addr) (u v : Int), (u, v) = msr z ps → Same G G1 → Sep G1 M H1 → H1 p = none → Q (.ref p) (upd H1 p (.tup [.int u, .int v])) := fun G1 H1 p u v e s1 S1 np =>
      q (.ref p) _ _ ⟨p, rfl, by rw [← e]; exact upd_same⟩ (s1.trans (S1.grow np)) (S1.newG np)
    have r0 := Same.refl G
    have hlen := prd_len hp
    refine ⟨_, .inl (S.l hS), fun e => ?_, fun e => ?_⟩
    · have e0 : (vs.length : Int) = 0 := of_decide_eq_true e
      have ep : ps = [] := List.length_eq_zero_iff.mp (by omega)
      refine ⟨fun e => ⟨fun _ => ⟨sz, fun p np => ret G H p _ _ ?_ r0 S np⟩, fun e => nomatch e⟩, fun e => ⟨fun e2 => ⟨sz, fun p np => ret G H p _ _ ?_ r0 S np⟩, fun e2 => ⟨small (by omega), sz, fun p np => ret G H p _ _ ?_ r0 S np⟩⟩⟩
      · unfold msr
        rw [if_pos ep, if_pos (.inl (of_decide_eq_true e))]
      · unfold msr
        rw [if_pos ep, if_pos (.inr (of_decide_eq_true e2))]
      · unfold msr
        rw [if_pos ep, if_neg]
        rintro (h | h)
        · exact of_decide_eq_false e h
        · exact of_decide_eq_false e2 h
    · have e0 : ¬ (vs.length : Int) = 0 := of_decide_eq_false e
      have hne : ps ≠ [] := by
        intro z
        rw [z] at hlen
        simp at hlen
        rw [hlen] at e0
        simp at e0
      refine ⟨t, rfl, ⟨vs, S.l hS⟩, for_list (xs := vs) (fun i σ H' => ∃ y4, σ = [some (.str z), some (.ref t), some (.int ((ps.take i).foldl mxs (0, 0)).1), some (.int ((ps.take i).foldl mxs (0, 0)).2), y4] ∧ H' = H)
        ⟨_, rfl, rfl⟩ (fun i σ H' _ h => ?_) (fun i x σ H' hx h => ?_) (fun σ H' h => ?_)⟩
      · obtain ⟨_, _, rfl⟩ := h
        exact S.l hS
      · obtain ⟨y4, rfl, rfl⟩ := h
        obtain ⟨p, hpi, a, rfl, ha⟩ := prd_get hp hx
        have e1 := take_snoc hpi
        generalize hA : (ps.take i).foldl mxs (0, 0) = A at *
        have e2 : (ps.take (i + 1)).foldl mxs (0, 0) = mxs A p := by rw [e1, List.foldl_append, hA]; rfl
        have ha2 : SqT K H' a _ := SqT.of (S.st ha)
        refine ⟨_, _, .inr ha2, rfl, fun e3 => ⟨_, _, .inr ha2, rfl, _, _, .inr ha2, rfl, fun e4 => ⟨_, _, .inr ha2, rfl, ?_⟩, fun e4 => ?_⟩, fun e3 => ⟨_, _, .inr ha2, rfl, fun e4 => ⟨_, _, .inr ha2, rfl, ?_⟩, fun e4 => ?_⟩⟩
        · refine ⟨some (.ref a), ?_, rfl⟩
          rw [e2]
          unfold mxs
          rw [if_pos (of_decide_eq_true e3), if_pos (of_decide_eq_true e4)]
          rfl
        · refine ⟨some (.ref a), ?_, rfl⟩
          rw [e2]
          unfold mxs
          rw [if_pos (of_decide_eq_true e3), if_neg (of_decide_eq_false e4)]
          rfl
        · refine ⟨some (.ref a), ?_, rfl⟩
          rw [e2]
          unfold mxs
          rw [if_neg (of_decide_eq_false e3), if_pos (of_decide_eq_true e4)]
          rfl
        · refine ⟨some (.ref a), ?_, rfl⟩
          rw [e2]
          unfold mxs
          rw [if_neg (of_decide_eq_false e3), if_neg (of_decide_eq_false e4)]
          rfl
      · obtain ⟨y4, rfl, rfl⟩ := h
        rw [hlen, List.take_length]
        refine ⟨fun e3 => ?_, fun e3 => ?_⟩
        · refine ⟨t, rfl, ⟨vs, S.l hS⟩, fun L nL => lc_at (xs := vs) (fun i H' => Sep G ((L, .lst ((ps.take i).map fun p => V.int p.1)) :: M) H') (S.new nL) (fun i H' p => p.l hS) (fun _ => rfl) (fun i x H' hx p => ?_) (fun H' S1 => ?_)⟩
          · obtain ⟨p', hpi, a, rfl, ha⟩ := prd_get hp hx
            refine ⟨_, _, .inr (SqT.of (p.st ha)), rfl, _, p.hd, ?_, ?_⟩
            · rw [List.length_map, List.length_take]
              exact smallL (by omega)
            · rw [take_snoc hpi, List.map_append]
              exact p.set
          · rw [hlen, List.take_length] at S1
            refine ⟨L, ps.map (·.1), rfl, ?_, sz, fun p np => ret _ _ p _ _ ?_ S1.frzS S1.frz np⟩
            · rw [List.map_map]
              exact SqL.of S1.hd
            · unfold msr
              rw [if_neg hne, of_decide_eq_true e3, fold_row ps 0 0 0]
              simp
        · refine ⟨t, rfl, ⟨vs, S.l hS⟩, fun L nL => lc_at (xs := vs) (fun i H' => Sep G ((L, .lst ((ps.take i).map fun p => V.int p.2)) :: M) H') (S.new nL) (fun i H' p => p.l hS) (fun _ => rfl) (fun i x H' hx p => ?_) (fun H' S1 => ?_)⟩
          · obtain ⟨p', hpi, a, rfl, ha⟩ := prd_get hp hx
            refine ⟨_, _, .inr (SqT.of (p.st ha)), rfl, _, p.hd, ?_, ?_⟩
            · rw [List.length_map, List.length_take]
              exact smallL (by omega)
            · rw [take_snoc hpi, List.map_append]
              exact p.set
          · rw [hlen, List.take_length] at S1
            refine ⟨L, ps.map (·.2), rfl, ?_, sz, fun p np => ret _ _ p _ _ ?_ S1.frzS S1.frz np⟩
            · rw [List.map_map]
              exact SqL.of S1.hd
            · unfold msr
              rw [if_neg hne, fold_col (of_decide_eq_false e3) ps 0 0 0]
              simp
def spIsPair : Sp := fun as H Q _ => ∃ (a : Addr) (x y : Int), as = [.ref a] ∧ H a = some (.tup [.int x, .int y]) ∧ Q (.bl true) H
theorem ok_is_pair (T : Top K mg) {k : Nat} (G_number : FnOk P w K mg base CX0 k T.a_number T.d_number ["_law_thing"] spNumber) : FnOk P w K mg base CX0 (k + 1) T.a_is_pair T.d_is_pair ["_law_thing"] spIsPair := by
  refine T.F_is_pair.ok sc_is_pair (fun vs H Q E h => ?_) (fun cdv A outer s H vs Q E hr h => ?_)
  · obtain ⟨a, x, y, rfl, _⟩ := h
    rfl
  · obtain ⟨a, x, y, rfl, ha, q⟩ := h
    refine ⟨_, (pss_one (ps_ret (xe_and (pe_callB (call_isK K) (by rfl) T.m_isinstance (by decide +kernel) (pa_cons (xv 0) (pa_cons (pe_bltn (v := .ty "tuple") (by rfl) T.m_tuple (by decide +kernel) rfl) pa_nil))) (xe_and (pe_cmpR (op_eqK K hr.units) (pe_callB (cr_lenK K) (by rfl) T.m_len (by decide +kernel) (pa_cons (xv 0) pa_nil)) pe_int (nomark _)) (xe_and (pe_call G_number (hr.mono (by omega)) (by rfl) T.g_number T.F_number.kp T.b_number .nil pass0 (pa_cons (pe_ix (ix_k K) (xv 0) pe_int (fun _ _ => rfl)) pa_nil)) (pe_one (pe_call G_number (hr.mono (by omega)) (by rfl) T.g_number T.F_number.kp T.b_number .nil pass0 (pa_cons (pe_ix (ix_k K) (xv 0) pe_int (fun _ _ => rfl)) pa_nil)))))))), ?_⟩
    refine ⟨_, _, _, _, true, rfl, .ty _, .base (.tup ha), kit_ty (by decide +kernel), fun _ => ?_, tt⟩
    refine ⟨_, .inr (SqT.of ha), fun _ => ?_, fun e => nomatch e⟩
    refine ⟨_, _, .inr (SqT.of ha), rfl, x, rfl, fun _ => ?_, tt⟩
    exact ⟨_, _, .inr (SqT.of ha), rfl, y, rfl, q⟩
end
end K16
set_option Elab.async false
set_option linter.all false
set_option maxRecDepth 100000
set_option maxHeartbeats 4000000
namespace K16
open PySem PySem.Spec PyProof.Rows L2 XL
/-- a row of pairs -/
def Rw (G : Hp) (v : V) : Prop := ∃ (l : Addr) (vs : List V) (ps : List (Int × Int)), v = .ref l ∧ G l = some (.lst vs) ∧ Paired (Pr G) vs ps ∧ vs.length ≤ 1000
theorem Rw.same {G G' : Hp} (e : Same G G') {v : V} (h : Rw G v) : Rw G' v := by
  obtain ⟨l, vs, ps, h1, h2, h3, h4⟩ := h
  exact ⟨l, vs, ps, h1, e _ _ h2, prd_imp (fun _ _ => Pr.same e) h3, h4⟩
section
variable {P : Program} {w : World} {K : PySem.W.Frag} {mg : Str → Option Value} {base : Heap}
def spLaw (K : PySem.W.Frag) : Sp := fun vs H Q _ => ∃ (a : Addr) (ns : List Int), vs = [.ref a] ∧ SqL K H a (ns.map V.int) ∧ ns.length ≤ 63 ∧ ∀ H', Q (.bl true) H'
theorem ok_law (T : Top K mg) (G_bag : FnOk P w K mg base CX0 1 T.a_bag T.d_bag ["_law_script"] (spBag K)) (G_pick : FnOk P w K mg base CX0 2 T.a_pick T.d_pick ["_law_bag_here", "_law_many"] spPick)
    (G_pair : FnOk P w K mg base CX0 3 T.a_pair T.d_pair ["_law_bag_here", "_law_wide", "_law_high"] spPair) (G_mingled : FnOk P w K mg base CX0 3 T.a_mingled T.d_mingled ["_law_bag_here", "_law_things"] (spMingled K))
    (G_label : FnOk P w K mg base CX0 4 T.a_label T.d_label ["_law_bag_here"] spLabel) (G_measure : FnOk P w K mg base CX0 1 T.a_measure T.d_measure ["label", "sizes"] (spMeasure K))
    (G_is_pair : FnOk P w K mg base CX0 2 T.a_is_pair T.d_is_pair ["_law_thing"] spIsPair) (G_due : FnOk P w K mg base CX0 1 T.a_due T.d_due ["_law_label_here", "_law_pairs"] (spDue K)) :
    FnOk P w K mg base CX0 5 T.a_law T.d_law ["_law_script"] (spLaw K) := by
  refine T.F_law.ok sc_law (fun vs H Q E h => ?_) (fun cdv A outer s H vs Q E hr h => ?_)
  · obtain ⟨a, ns, rfl, _⟩ := h
    rfl
  · obtain ⟨a, ns, rfl, hA, hl, q⟩ := h
    refine ⟨_, (pss_cons (ps_set (i := 1) sc_law.nd rfl (.inr rfl) (pe_call G_bag (hr.mono (by omega)) (by rfl) T.g_bag T.F_bag.kp T.b_bag .nil pass0 (pa_cons (xv 0) pa_nil)))
      (pss_cons (ps_set (i := 2) sc_law.nd rfl (.inl rfl) (pe_call G_pick (hr.mono (by omega)) (by rfl) T.g_pick T.F_pick.kp T.b_pick .nil pass0 (pa_cons (xv 1) (pa_cons pe_int pa_nil))))
      (pss_cons (ps_set (i := 3) sc_law.nd rfl (.inr rfl) (pe_ix (ix_k K) (pe_lst (pa_cons pe_int (pa_cons pe_int (pa_cons pe_int pa_nil)))) (pe_call G_pick (hr.mono (by omega)) (by rfl) T.g_pick T.F_pick.kp T.b_pick .nil pass0 (pa_cons (xv 1) (pa_cons pe_int pa_nil))) (fun _ _ => rfl)))
      (pss_cons (ps_set (i := 4) sc_law.nd rfl (.inr rfl) (pe_ix (ix_k K) (pe_lst (pa_cons pe_int (pa_cons pe_int (pa_cons pe_int pa_nil)))) (pe_call G_pick (hr.mono (by omega)) (by rfl) T.g_pick T.F_pick.kp T.b_pick .nil pass0 (pa_cons (xv 1) (pa_cons pe_int pa_nil))) (fun _ _ => rfl)))
      (pss_cons (ps_setLc (i := 5) (own := [("_law_step", 11)]) (by rfl) sc_law.nd rfl rfl (sw_true rfl rfl rfl (by decide +kernel)) (pi_range1 (by rfl) T.m_range (pa_cons (pe_call G_pick (hr.mono (by omega)) (by rfl) T.g_pick T.F_pick.kp T.b_pick .nil pass0 (pa_cons (xv 1) (pa_cons pe_int pa_nil))) pa_nil)) (blkOk_by (N := ["_law_script", "_law_bag_here", "_law_way", "_law_wide", "_law_high", "_law_pairs", "_law_mingled_here", "_law_rows", "_law_label_here", "_law_row", "_law_told", "_law_step", "_law_pair_here"]) (sc := defScope s_law) (by decide +kernel)) (fun _ _ _ _ _ => (pg_name (i := 11) sc_law.nd rfl (.inl rfl))) (fun _ _ _ _ _ => pts_nil) (fun _ _ _ _ _ => (pe_call G_pair (hr.mono (by omega)) (by rfl) T.g_pair T.F_pair.kp T.b_pair .nil pass0 (pa_cons (xv 1) (pa_cons (xv 3) (pa_cons (xv 4) pa_nil))))))
      (pss_cons (ps_set (i := 6) sc_law.nd rfl (.inl rfl) (pe_call G_mingled (hr.mono (by omega)) (by rfl) T.g_mingled T.F_mingled.kp T.b_mingled .nil pass0 (pa_cons (xv 1) (pa_cons (xv 5) pa_nil))))
      (xss_cut (xs_if (xt_cmp (op_eqK K hr.units) (xv 2) pe_int (nomark _))
      (pss_one (ps_set (i := 5) sc_law.nd rfl (.inl rfl) (pe_op op_mulY (xv 5) (pe_op op_addY pe_int (pe_call G_pick (hr.mono (by omega)) (by rfl) T.g_pick T.F_pick.kp T.b_pick .nil pass0 (pa_cons (xv 1) (pa_cons pe_int pa_nil)))))))
      pss_nil)
      (pss_cons (ps_set (i := 7) sc_law.nd rfl (.inl rfl) (pe_lst (pa_cons (xv 5) (pa_cons (pe_lst pa_nil) (pa_cons (pe_slice (sl_listK K) (xv 5) po_none (po_some pe_int)) (pa_cons (pe_lc (own := [("_law_pair_here", 12)]) (by rfl) sc_law.nd (pi_listK K (xv 5)) (blkOk_by (N := ["_law_script", "_law_bag_here", "_law_way", "_law_wide", "_law_high", "_law_pairs", "_law_mingled_here", "_law_rows", "_law_label_here", "_law_row", "_law_told", "_law_step", "_law_pair_here"]) (sc := defScope s_law) (by decide +kernel)) (fun _ _ _ _ _ => (pg_name (i := 12) sc_law.nd rfl (.inl rfl))) (fun _ _ _ _ _ => pts_nil) (fun _ _ _ _ _ => (pe_tup (pa_cons (pe_ix (ix_k K) (xv 12) pe_int (fun _ _ => rfl)) (pa_cons (pe_ix (ix_k K) (xv 12) pe_int (fun _ _ => rfl)) pa_nil))))) (pa_cons (xv 6) (pa_cons (pe_op op_addY (xv 5) (pe_lst (pa_cons (pe_tup (pa_cons pe_int (pa_cons pe_int pa_nil))) pa_nil))) pa_nil))))))))
      (pss_cons (ps_set (i := 7) sc_law.nd rfl (.inl rfl) (pe_op op_addY (xv 7) (pe_lst (pa_cons (pe_lc (own := [("_law_pair_here", 12)]) (by rfl) sc_law.nd (pi_listK K (xv 5)) (blkOk_by (N := ["_law_script", "_law_bag_here", "_law_way", "_law_wide", "_law_high", "_law_pairs", "_law_mingled_here", "_law_rows", "_law_label_here", "_law_row", "_law_told", "_law_step", "_law_pair_here"]) (sc := defScope s_law) (by decide +kernel)) (fun _ _ _ _ _ => (pg_name (i := 12) sc_law.nd rfl (.inl rfl))) (fun _ _ _ _ _ => pts_nil) (fun _ _ _ _ _ => (pe_tup (pa_cons (pe_op op_mulY (pe_ix (ix_k K) (xv 12) pe_int (fun _ _ => rfl)) pe_int) (pa_cons (pe_ix (ix_k K) (xv 12) pe_int (fun _ _ => rfl)) pa_nil))))) (pa_cons (xv 5) pa_nil)))))
      (pss_cons (ps_for PassesOwn.never rfl (pi_listK K (pe_lst (pa_cons pe_str (pa_cons pe_str (pa_cons (pe_call G_label (hr.mono (by omega)) (by rfl) T.g_label T.F_label.kp T.b_label .nil pass0 (pa_cons (xv 1) pa_nil)) (pa_cons (pe_call G_label (hr.mono (by omega)) (by rfl) T.g_label T.F_label.kp T.b_label .nil pass0 (pa_cons (xv 1) pa_nil)) pa_nil)))))) (pg_name (i := 8) sc_law.nd rfl (.inl rfl))
      (pss_one (ps_for PassesOwn.never rfl (pi_listK K (xv 7)) (pg_name (i := 9) sc_law.nd rfl (.inl rfl))
      (pss_cons (ps_set (i := 10) sc_law.nd rfl (.inl rfl) (pe_call G_measure (hr.mono (by omega)) (by rfl) T.g_measure T.F_measure.kp T.b_measure .nil pass0 (pa_cons (xv 8) (pa_cons (pe_callTy (call_tupleK K) (by rfl) T.m_tuple (by decide +kernel) (pa_cons (xv 9) pa_nil)) pa_nil))))
      (pss_one (xs_if (PW.pt (xw_or (pt_not (xt_truK K (pe_call G_is_pair (hr.mono (by omega)) (by rfl) T.g_is_pair T.F_is_pair.kp T.b_is_pair .nil pass0 (pa_cons (xv 10) pa_nil)))) (pw_or1 (xt_cmp (op_neK K hr.units) (xv 10) (pe_call G_due (hr.mono (by omega)) (by rfl) T.g_due T.F_due.kp T.b_due .nil pass0 (pa_cons (xv 8) (pa_cons (xv 9) pa_nil))) (nomark _)))))
      (pss_one (ps_ret pe_bl))
      pss_nil))))))
      (pss_one (ps_ret pe_bl)))))))))))), ?_⟩
    refine ⟨H, [], a, ns, rfl, sep0, hA, hl, fun b o1 G1 H1 _ B1 S1 => ?_⟩
    refine ⟨G1, [], b, o1, _, rfl, S1, B1, by omega, by omega, fun way o2 H2 _ _ B2 S2 => ?_⟩
    -- wide
    refine ⟨sz, fun p3 n3 => ?_⟩
    have S3 := S2.newG (o := .lst [.int 20, .int 20, .int 399]) n3
    refine ⟨_, [], b, o2, _, rfl, S3, B2.same (S2.grow n3), by omega, by omega, fun r3 o4 H4 r30 r31 B4 S4 => ?_⟩
    obtain ⟨v3, hv3, hm3⟩ := atI_in (xs := [V.int 20, .int 20, .int 399]) r30 r31
    obtain ⟨wd, rfl, wd0, wd1⟩ : ∃ i : Int, v3 = .int i ∧ 0 ≤ i ∧ i < 1000 := by
      simp only [List.mem_cons, List.not_mem_nil, or_false] at hm3
      rcases hm3 with rfl | rfl | rfl <;> exact ⟨_, rfl, by decide, by decide⟩
    refine ⟨_, _, .inl (SqL.of (S4.st upd_same)), hv3, ?_⟩
    -- high
    refine ⟨sz, fun p5 n5 => ?_⟩
    have S5 := S4.newG (o := .lst [.int 6, .int 6, .int 399]) n5
    refine ⟨_, [], b, o4, _, rfl, S5, B4.same (S4.grow n5), by omega, by omega, fun r5 o6 H6 r50 r51 B6 S6 => ?_⟩
    obtain ⟨v5, hv5, hm5⟩ := atI_in (xs := [V.int 6, .int 6, .int 399]) r50 r51
    obtain ⟨hg, rfl, hg0, hg1⟩ : ∃ i : Int, v5 = .int i ∧ 0 ≤ i ∧ i < 1000 := by
      simp only [List.mem_cons, List.not_mem_nil, or_false] at hm5
      rcases hm5 with rfl | rfl | rfl <;> exact ⟨_, rfl, by decide, by decide⟩
    refine ⟨_, _, .inl (SqL.of (S6.st upd_same)), hv5, ?_⟩
    generalize (upd (upd G1 p3 (.lst [.int 20, .int 20, .int 399])) p5 (.lst [.int 6, .int 6, .int 399])) = G6 at *
    -- pairs
    refine ⟨_, [], b, o6, _, rfl, S6, B6, by omega, by omega, fun r7 o7 H7 r70 r71 B7 S7 => ?_⟩
    refine ⟨_, rfl, by omega, by omega, fun L nL => lc_rng (lo := 0) (n := r7.toNat) (fun i H' => ∃ (G' : Hp) (o' : HO) (vs : List V) (ps : List (Int × Int)), Bag G' o' ∧ Sep G' [(b, o'), (L, .lst vs)] H' ∧ Paired (Pr G') vs ps ∧ vs.length = i)
      ⟨_, _, [], [], B7, (S7.new nL).sw, .nil, rfl⟩ (fun _ => rfl) (fun i H' hi h => ?_) (fun H' h => ?_)⟩
    · obtain ⟨G', o', vs, ps, B', S', hp, hv⟩ := h
      refine ⟨G', _, b, o', _, _, rfl, S', B', wd0, wd1, hg0, hg1, fun v p o2 G2 H2 pr s2 B2 S2 => ?_⟩
      refine ⟨vs, S2.sw.hd, smallL (by omega), G2, o2, vs ++ [v], ps ++ [p], B2, S2.sw.set.sw, (prd_imp (fun _ _ => Pr.same s2) hp).snoc pr, ?_⟩
      rw [List.length_append, hv]
      rfl
    · obtain ⟨G8, o8, vs, ps, B8, S8, hp, hv⟩ := h
      have hvl : vs.length ≤ 8 := by omega
      have S9 := S8.sw.frz
      have s9 := S8.sw.frzS
      -- mingled
      refine ⟨_, [], b, o8, L, vs, rfl, S9, B8.same s9, SqL.of upd_same, by omega, fun m ys o10 G10 H10 s10 hm hys hyl B10 S10 => ?_⟩
      have hp10 : Paired (Pr G10) vs ps := prd_imp (fun _ _ => Pr.same (s9.trans s10)) hp
      have hL : G10 L = some (.lst vs) := s10 _ _ upd_same
      obtain ⟨qs, hq⟩ : ∃ qs, Paired (Pr G10) ys qs := prd_ex fun y hy => by
        obtain ⟨p, _, h⟩ := prd_mem hp10 (hys y hy)
        exact ⟨p, h⟩
      -- the rows, from some pairs on
      refine ⟨fun σ H' => ∃ (N : Addr) (G' : Hp) (o' : HO) (us : List V) (ts : List (Int × Int)), σ = [some (.ref a), some (.ref b), some (.int way), some (.int wd), some (.int hg), some (.ref N), some (.ref m), none, none, none, none, none, none] ∧
        Bag G' o' ∧ Sep G' [(b, o')] H' ∧ G' N = some (.lst us) ∧ Paired (Pr G') us ts ∧ us.length ≤ 320 ∧ Rw G' (.ref m), ?_, fun σ H' h => ?_⟩
      · refine ⟨fun e => ?_, fun e => ?_⟩
        · refine ⟨_, [], b, o10, _, rfl, S10, B10, by omega, by omega, fun r o11 H11 r0 r1 B11 S11 => ?_⟩
          have hn : (1 + r).toNat ≤ 40 := by omega
          have hle : ((List.replicate (1 + r).toNat vs).flatten).length ≤ 320 := by
            rw [List.length_flatten, List.map_replicate, List.sum_replicate_nat]
            exact Nat.mul_le_mul hn hvl
          refine ⟨L, _, vs, rfl, rfl, S11.st hL, by omega, by omega, ?_, fun N nN => ?_⟩
          · exact small (Nat.le_trans (Nat.mul_le_mul hvl hn) (by decide))
          · have s12 : Same G10 _ := S11.grow (o := .lst (List.replicate (1 + r).toNat vs).flatten) nN
            obtain ⟨ts, ht⟩ : ∃ ts, Paired (Pr (upd G10 N (.lst (List.replicate (1 + r).toNat vs).flatten))) (List.replicate (1 + r).toNat vs).flatten ts := prd_ex fun y hy => by
              obtain ⟨l, hl1, hl2⟩ := List.mem_flatten.mp hy
              rw [(List.mem_replicate.mp hl1).2] at hl2
              obtain ⟨p, _, h⟩ := prd_mem hp10 hl2
              exact ⟨p, h.same s12⟩
            exact ⟨N, _, o11, _, ts, rfl, B11.same s12, S11.newG nN, upd_same, ht, hle, ⟨m, ys, qs, rfl, s12 _ _ hm, prd_imp (fun _ _ => Pr.same s12) hq, by omega⟩⟩
        · exact ⟨L, G10, o10, vs, ps, rfl, B10, S10, hL, hp10, by omega, ⟨m, ys, qs, rfl, hm, hq, by omega⟩⟩
      · obtain ⟨N, G', o', us, ts, rfl, B', S', hN, ht, hu, hm'⟩ := h
        have hNl : SqL K G' N us := SqL.of hN
        have RN : Rw G' (.ref N) := ⟨N, us, ts, rfl, hN, ht, by omega⟩
        -- [], pairs[:1]
        refine ⟨sz, fun E1 nE1 => ?_⟩
        have T1 := S'.newG (o := .lst []) nE1
        have t1 := S'.grow (o := .lst []) nE1
        refine ⟨1, rfl, N, us, rfl, T1.l (same_l t1 hNl), fun E2 nE2 => ?_⟩
        have T2 := T1.newG (o := .lst (cutV us none (some 1))) nE2
        have t2 := T1.grow (o := .lst (cutV us none (some 1))) nE2
        have R1 : Rw (upd (upd G' E1 (.lst [])) E2 (.lst (cutV us none (some 1)))) (.ref E1) := ⟨E1, [], [], rfl, t2 _ _ upd_same, .nil, by decide⟩
        have t12 := t1.trans t2
        have R2 : Rw (upd (upd G' E1 (.lst [])) E2 (.lst (cutV us none (some 1)))) (.ref E2) := by
          obtain ⟨xs, hx⟩ : ∃ xs, Paired (Pr (upd (upd G' E1 (.lst [])) E2 (.lst (cutV us none (some 1))))) (cutV us none (some 1)) xs := prd_ex fun y hy => by
            obtain ⟨p, _, h⟩ := prd_mem ht (List.mem_of_mem_drop (List.mem_of_mem_take hy))
            exact ⟨p, h.same t12⟩
          exact ⟨E2, _, xs, rfl, upd_same, hx, Nat.le_trans (cutV_length us none (some 1)) (by omega)⟩
        generalize hG2 : upd (upd G' E1 (.lst [])) E2 (.lst (cutV us none (some 1))) = G2 at *
        have ht2 : Paired (Pr G2) us ts := prd_imp (fun _ _ => Pr.same t12) ht
        have hN2 : G2 N = some (.lst us) := t12 _ _ hN
        -- width and height exchanged
        refine ⟨N, rfl, ⟨us, SqL.of (T2.st hN2)⟩, fun E3 nE3 => lc_at (xs := us) (fun i H' => ∃ (G3 : Hp) (zs : List V) (xs : List (Int × Int)), Same G2 G3 ∧ Sep G3 [(E3, .lst zs), (b, o')] H' ∧ Paired (Pr G3) zs xs ∧ zs.length = i)
          ⟨G2, [], [], Same.refl _, T2.new nE3, .nil, rfl⟩ (fun i H' h => ?_) (fun _ => rfl) (fun i x H' hx h => ?_) (fun H' h => ?_)⟩
        · obtain ⟨G3, _, _, s3, S3, _⟩ := h
          exact SqL.of (S3.st (s3 _ _ hN2))
        · obtain ⟨G3, zs, xs, s3, S3, hz, hzl⟩ := h
          obtain ⟨p, hpi, c, rfl, hc⟩ := prd_get ht2 hx
          have hc3 : SqT K H' c _ := SqT.of (S3.st (s3 _ _ hc))
          refine ⟨_, _, .inr hc3, rfl, _, _, .inr hc3, rfl, sz, fun d nd => ?_⟩
          have S4 := S3.newG (o := .tup [.int p.2, .int p.1]) nd
          have s4 := S3.grow (o := .tup [.int p.2, .int p.1]) nd
          have hil : i < us.length := (List.getElem?_eq_some_iff.mp hx).1
          refine ⟨zs, S4.hd, smallL (by omega), _, zs ++ [.ref d], xs ++ [(p.2, p.1)], s3.trans s4, S4.set, (prd_imp (fun _ _ => Pr.same s4) hz).snoc ⟨d, rfl, upd_same⟩, ?_⟩
          rw [List.length_append, hzl]
          rfl
        · obtain ⟨G3, zs, xs, s3, S3, hz, hzl⟩ := h
          have T3 := S3.frz
          have t3 := S3.frzS
          have R3 : Rw (upd G3 E3 (.lst zs)) (.ref E3) := ⟨E3, zs, xs, rfl, upd_same, prd_imp (fun _ _ => Pr.same t3) hz, by omega⟩
          have t13 := s3.trans t3
          have RN3 := RN.same (t12.trans t13)
          have R13 := R1.same t13
          have R23 := R2.same t13
          have Rm3 := hm'.same (t12.trans t13)
          have hN3 := t13 _ _ hN2
          have ht3 : Paired (Pr (upd G3 E3 (.lst zs))) us ts := prd_imp (fun _ _ => Pr.same t13) ht2
          generalize upd G3 E3 (.lst zs) = G4 at *
          -- pairs + [(0, 0)]
          refine ⟨sz, fun E4 nE4 => ⟨sz, fun E5 nE5 => ?_⟩⟩
          have T4 := T3.newG (o := .tup [.int 0, .int 0]) nE4
          have t4 := T3.grow (o := .tup [.int 0, .int 0]) nE4
          have T5 := T4.newG (o := .lst [.ref E4]) nE5
          have t5 := T4.grow (o := .lst [.ref E4]) nE5
          have t45 := t4.trans t5
          refine ⟨N, E5, us, _, rfl, rfl, T5.st (t45 _ _ hN3), T5.st upd_same, small (by show us.length + 1 ≤ 100000; omega), fun E6 nE6 => ?_⟩
          have T6 := T5.newG (o := .lst (us ++ [.ref E4])) nE6
          have t6 := T5.grow (o := .lst (us ++ [.ref E4])) nE6
          have t46 := t45.trans t6
          have R6 : Rw (upd (upd (upd G4 E4 (.tup [.int 0, .int 0])) E5 (.lst [.ref E4])) E6 (.lst (us ++ [.ref E4]))) (.ref E6) := ⟨E6, us ++ [.ref E4], ts ++ [(0, 0)], rfl, upd_same, (prd_imp (fun _ _ => Pr.same t46) ht3).snoc ⟨E4, rfl, t6 _ _ (t5 _ _ upd_same)⟩, by
            rw [List.length_append]
            show us.length + 1 ≤ 1000
            omega⟩
          have RN6 := RN3.same t46
          have R16 := R13.same t46
          have R26 := R23.same t46
          have R36 := R3.same t46
          have Rm6 := Rm3.same t46
          have hN6 := t46 _ _ hN3
          have ht6 : Paired (Pr (upd (upd (upd G4 E4 (.tup [.int 0, .int 0])) E5 (.lst [.ref E4])) E6 (.lst (us ++ [.ref E4])))) us ts := prd_imp (fun _ _ => Pr.same t46) ht3
          generalize upd (upd (upd G4 E4 (.tup [.int 0, .int 0])) E5 (.lst [.ref E4])) E6 (.lst (us ++ [.ref E4])) = G6 at *
          refine ⟨sz, fun E7 nE7 => ?_⟩
          have T7 := T6.newG (o := .lst [.ref N, .ref E1, .ref E2, .ref E3, .ref m, .ref E6]) nE7
          have t7 := T6.grow (o := .lst [.ref N, .ref E1, .ref E2, .ref E3, .ref m, .ref E6]) nE7
          have hN7 := t7 _ _ hN6
          have hE7 : upd G6 E7 (.lst [.ref N, .ref E1, .ref E2, .ref E3, .ref m, .ref E6]) E7 = some (.lst [.ref N, .ref E1, .ref E2, .ref E3, .ref m, .ref E6]) := upd_same
          have ht7 : Paired (Pr (upd G6 E7 (.lst [.ref N, .ref E1, .ref E2, .ref E3, .ref m, .ref E6]))) us ts := prd_imp (fun _ _ => Pr.same t7) ht6
          have RN7 := RN6.same t7
          have R17 := R16.same t7
          have R27 := R26.same t7
          have R37 := R36.same t7
          have Rm7 := Rm6.same t7
          have R67 := R6.same t7
          generalize upd G6 E7 (.lst [.ref N, .ref E1, .ref E2, .ref E3, .ref m, .ref E6]) = G7 at *
          -- each width twenty times as great
          refine ⟨N, rfl, ⟨us, SqL.of (T7.st hN7)⟩, fun E8 nE8 => lc_at (xs := us) (fun i H' => ∃ (G3 : Hp) (zs : List V) (xs : List (Int × Int)), Same G7 G3 ∧ Sep G3 [(E8, .lst zs), (b, o')] H' ∧ Paired (Pr G3) zs xs ∧ zs.length = i)
            ⟨G7, [], [], Same.refl _, T7.new nE8, .nil, rfl⟩ (fun i H' h => ?_) (fun _ => rfl) (fun i x H' hx h => ?_) (fun H' h => ?_)⟩
          · obtain ⟨G3, _, _, s3, S3, _⟩ := h
            exact SqL.of (S3.st (s3 _ _ hN7))
          · obtain ⟨G3, zs, xs, s3, S3, hz, hzl⟩ := h
            obtain ⟨p, hpi, c, rfl, hc⟩ := prd_get ht7 hx
            have hc3 : SqT K H' c _ := SqT.of (S3.st (s3 _ _ hc))
            refine ⟨_, _, .inr hc3, rfl, .inr ⟨by decide, by decide⟩, _, _, .inr hc3, rfl, sz, fun d nd => ?_⟩
            have S4 := S3.newG (o := .tup [.int (p.1 * 20), .int p.2]) nd
            have s4 := S3.grow (o := .tup [.int (p.1 * 20), .int p.2]) nd
            have hil : i < us.length := (List.getElem?_eq_some_iff.mp hx).1
            refine ⟨zs, S4.hd, smallL (by omega), _, zs ++ [.ref d], xs ++ [(p.1 * 20, p.2)], s3.trans s4, S4.set, (prd_imp (fun _ _ => Pr.same s4) hz).snoc ⟨d, rfl, upd_same⟩, ?_⟩
            rw [List.length_append, hzl]
            rfl
          · obtain ⟨G8, zs, xs, s8, S8, hz, hzl⟩ := h
            have T8 := S8.frz
            have t8 := S8.frzS
            have R8 : Rw (upd G8 E8 (.lst zs)) (.ref E8) := ⟨E8, zs, xs, rfl, upd_same, prd_imp (fun _ _ => Pr.same t8) hz, by omega⟩
            have t78 := s8.trans t8
            generalize upd G8 E8 (.lst zs) = G9 at *
            refine ⟨sz, fun E9 nE9 => ?_⟩
            have T9 := T8.newG (o := .lst [.ref E8, .ref N]) nE9
            have t9 := T8.grow (o := .lst [.ref E8, .ref N]) nE9
            refine ⟨E7, E9, _, _, rfl, rfl, T9.st (t9 _ _ (t78 _ _ hE7)), T9.st upd_same, sz, fun R nR => ?_⟩
            have TR := T9.newG (o := .lst ([.ref N, .ref E1, .ref E2, .ref E3, .ref m, .ref E6] ++ [.ref E8, .ref N])) nR
            have tR := T9.grow (o := .lst ([.ref N, .ref E1, .ref E2, .ref E3, .ref m, .ref E6] ++ [.ref E8, .ref N])) nR
            have t7R := t78.trans (t9.trans tR)
            have hRows : ∀ v ∈ ([.ref N, .ref E1, .ref E2, .ref E3, .ref m, .ref E6] ++ [.ref E8, .ref N] : List V), Rw (upd (upd G9 E9 (.lst [.ref E8, .ref N])) R (.lst ([.ref N, .ref E1, .ref E2, .ref E3, .ref m, .ref E6] ++ [.ref E8, .ref N]))) v := by
              intro v hv
              simp only [List.cons_append, List.nil_append, List.mem_cons, List.not_mem_nil, or_false] at hv
              rcases hv with rfl | rfl | rfl | rfl | rfl | rfl | rfl | rfl
              · exact RN7.same t7R
              · exact R17.same t7R
              · exact R27.same t7R
              · exact R37.same t7R
              · exact Rm7.same t7R
              · exact R67.same t7R
              · exact R8.same (t9.trans tR)
              · exact RN7.same t7R
            have hR : upd (upd G9 E9 (.lst [.ref E8, .ref N])) R (.lst ([.ref N, .ref E1, .ref E2, .ref E3, .ref m, .ref E6] ++ [.ref E8, .ref N])) R = some (.lst ([.ref N, .ref E1, .ref E2, .ref E3, .ref m, .ref E6] ++ [.ref E8, .ref N])) := upd_same
            have BR := (B'.same (t12.trans t13)).same (t46.trans (t7.trans t7R))
            generalize upd (upd G9 E9 (.lst [.ref E8, .ref N])) R (.lst ([.ref N, .ref E1, .ref E2, .ref E3, .ref m, .ref E6] ++ [.ref E8, .ref N])) = GR at *
            generalize ([.ref N, .ref E1, .ref E2, .ref E3, .ref m, .ref E6] ++ [.ref E8, .ref N] : List V) = rows at *
            -- the labels
            refine ⟨GR, [], b, o', rfl, TR, BR, fun z1 o1 Ga Ha hz1 sa Ba Sa => ?_⟩
            refine ⟨Ga, [], b, o1, rfl, Sa, Ba, fun z2 o2 Gb Hb hz2 sb Bb Sb => ?_⟩
            refine ⟨sz, fun F nF => ?_⟩
            have Sc := Sb.drop.newG (o := .lst [.str "row", .str "col", .str z1, .str z2]) nF
            have sc := Sb.grow (o := .lst [.str "row", .str "col", .str z1, .str z2]) nF
            have hlab : ∀ v ∈ ([.str "row", .str "col", .str z1, .str z2] : List V), ∃ z : Str, v = .str z ∧ z.length ≤ 100 := by
              intro v hv
              simp only [List.mem_cons, List.not_mem_nil, or_false] at hv
              rcases hv with rfl | rfl | rfl | rfl
              · exact ⟨_, rfl, by decide +kernel⟩
              · exact ⟨_, rfl, by decide +kernel⟩
              · exact ⟨_, rfl, hz1⟩
              · exact ⟨_, rfl, hz2⟩
            have hF : upd Gb F (.lst [.str "row", .str "col", .str z1, .str z2]) F = some (.lst [.str "row", .str "col", .str z1, .str z2]) := upd_same
            have sR : Same GR _ := sa.trans (sb.trans sc)
            generalize upd Gb F (.lst [.str "row", .str "col", .str z1, .str z2]) = Gc at *
            refine ⟨F, rfl, ⟨_, SqL.of (Sc.st hF)⟩, for_pre (xs := [.str "row", .str "col", .str z1, .str z2]) (fun pre σ H' => ∃ (y8 y9 y10 : Option V) (G' : Hp), σ = [some (.ref a), some (.ref b), some (.int way), some (.int wd), some (.int hg), some (.ref N), some (.ref m), some (.ref R), y8, y9, y10, none, none] ∧ Same Gc G' ∧ Sep G' [] H')
              ⟨_, _, _, Gc, rfl, Same.refl _, Sc⟩ (fun pre σ H' h => ?_) (fun pre x post σ H' e h => ?_) (fun σ H' h => ?_)⟩
            · obtain ⟨_, _, _, G', _, s', S'⟩ := h
              exact SqL.of (S'.st (s' _ _ hF))
            · obtain ⟨y8, y9, y10, Gd, rfl, sd, Sd⟩ := h
              obtain ⟨z, rfl, hz⟩ := hlab x (by rw [e]; simp)
              refine ⟨R, rfl, ⟨_, SqL.of (Sd.st (sd _ _ (sR _ _ hR)))⟩, for_pre (xs := rows) (fun pre σ H' => ∃ (y9 y10 : Option V) (G' : Hp), σ = [some (.ref a), some (.ref b), some (.int way), some (.int wd), some (.int hg), some (.ref N), some (.ref m), some (.ref R), some (.str z), y9, y10, none, none] ∧ Same Gd G' ∧ Sep G' [] H')
                ⟨_, _, Gd, rfl, Same.refl _, Sd⟩ (fun pre σ H' h => ?_) (fun pre x post σ H' e2 h => ?_) (fun σ H' h => ?_)⟩
              · obtain ⟨_, _, G', _, s', S'⟩ := h
                exact SqL.of (S'.st (s' _ _ (sd _ _ (sR _ _ hR))))
              · obtain ⟨y9, y10, Ge, rfl, se, Se⟩ := h
                obtain ⟨l, vs', ps', rfl, hl', hp', hle'⟩ := (hRows x (by rw [e2]; simp)).same (sR.trans (sd.trans se))
                -- measure(label, tuple(row))
                refine ⟨l, vs', rfl, .inl ⟨SqL.of (Se.st hl'), fun t nt => ?_⟩⟩
                have Sf := Se.newG (o := .tup vs') nt
                have sf := Se.grow (o := .tup vs') nt
                refine ⟨_, [], z, t, vs', ps', rfl, Sf, hz, upd_same, prd_imp (fun _ _ => Pr.same sf) hp', fun v Gg Hg hv sg Sg => ?_⟩
                obtain ⟨c, rfl, hc⟩ := hv
                refine ⟨c, _, _, rfl, Sg.st hc, ff, fun _ => ?_⟩
                have sfg := sf.trans sg
                refine ⟨Gg, [], z, l, vs', ps', rfl, Sg, hz, sfg _ _ hl', prd_imp (fun _ _ => Pr.same sfg) hp', by omega, fun v Gh Hh hv2 sh Sh => ?_⟩
                obtain ⟨c2, rfl, hc2⟩ := hv2
                have hd : ∀ {c : Addr}, Gh c = some (.tup [.int (msr z ps').1, .int (msr z ps').2]) → Dp K Hh (.ref c) (.tuple [.int (msr z ps').1, .int (msr z ps').2]) := fun h => .tup (SqT.of (Sh.st h)) (.cons (.int _) (.cons (.int _) .nil))
                have heq : (!PyData.eqv (.tuple [.int (msr z ps').1, .int (msr z ps').2]) (.tuple [.int (msr z ps').1, .int (msr z ps').2])) = false := by
                  rw [SeqAt.eqv_refl _ rfl]
                  rfl
                refine ⟨_, _, hd (sh _ _ hc), hd hc2, rfl, rfl, fun e => absurd (heq.symm.trans e) Bool.false_ne_true, fun _ => ?_⟩
                exact ⟨_, _, Gh, rfl, se.trans (sfg.trans sh), Sh⟩
              · obtain ⟨y9, y10, Ge, rfl, se, Se⟩ := h
                exact ⟨_, _, _, Ge, rfl, sd.trans se, Se⟩
            · exact q _
theorem law_end {l : PySem.W.OpenLaw} {w : World} {K : PySem.W.Frag} {h : Heap} {mg : Str → Option Value} {fa f : Addr} (X : K.In h) (G : h.Ns mainGlobals mg) (hfa : mg "law" = some (.ref fa))
    (t : ∃ T : Top K mg, T.a_law = f ∧ ∀ (s : Shared) (v : Value), BindsTo s T.d_law ⟨[v], []⟩ [("_law_script", v)]) :
    ∃ fd : FuncData, (∀ (s : Shared) (v : Value), BindsTo s fd ⟨[v], []⟩ [("_law_script", v)]) ∧ ∀ base : Heap, K.In base → base.Ns mainGlobals mg → FnOk l.prog w K mg base CX0 5 fa fd ["_law_script"] (spLaw K) := by
  obtain ⟨T, _, hb⟩ := t
  have e := hfa.symm.trans T.g_law
  cases e
  refine ⟨T.d_law, hb, fun base _ _ => ?_⟩
  have Gm : FnOk l.prog w K mg base CX0 1 T.a_mixed T.d_mixed _ spMixed := ok_mixed T
  have Gp := ok_pick T Gm
  have Gc := ok_choice T Gp
  have Gt := ok_text T Gp
  have Gn : FnOk l.prog w K mg base CX0 1 T.a_number T.d_number _ spNumber := ok_number T
  exact ok_law T (ok_bag T) Gp (ok_pair T Gp) (ok_mingled T Gp) (ok_label T Gp Gt Gc) (ok_measure T) (ok_is_pair T Gn) (ok_due T)
end
theorem top_mk {K : PySem.W.Frag} {h : Heap} {mg : Str → Option Value} (X : K.In h) (G : h.Ns mainGlobals mg)
    {f0 : Addr} {od0 an0 : Option Addr} {sl0 : Array (Option Value)} {oc0 kV0 dc0 pm0 cd0 ct0 : Value}
    (a0 : PySem.W.nsIn K mainGlobals "measure" = some (some (.ref f0))) (l0 : K.lookup f0 = some ⟨oc0, od0, .func (PySem.W.fnOf "measure" "measure" (defArgs s_measure) (defBody s_measure) (defScope s_measure) .none kV0 dc0 pm0 an0 cd0 ct0), sl0⟩) (c0 : PySem.W.codeIn K cd0 "measure" = true) (k0 : PySem.W.keepIn K (.ref f0) = true)
    {f1 : Addr} {od1 an1 : Option Addr} {sl1 : Array (Option Value)} {oc1 kV1 dc1 pm1 cd1 ct1 : Value}
    (a1 : PySem.W.nsIn K mainGlobals "_law_mixed" = some (some (.ref f1))) (l1 : K.lookup f1 = some ⟨oc1, od1, .func (PySem.W.fnOf "_law_mixed" "_law_mixed" (defArgs s_mixed) (defBody s_mixed) (defScope s_mixed) .none kV1 dc1 pm1 an1 cd1 ct1), sl1⟩) (c1 : PySem.W.codeIn K cd1 "_law_mixed" = true) (k1 : PySem.W.keepIn K (.ref f1) = true)
    {f2 : Addr} {od2 an2 : Option Addr} {sl2 : Array (Option Value)} {oc2 kV2 dc2 pm2 cd2 ct2 : Value}
    (a2 : PySem.W.nsIn K mainGlobals "_law_bag" = some (some (.ref f2))) (l2 : K.lookup f2 = some ⟨oc2, od2, .func (PySem.W.fnOf "_law_bag" "_law_bag" (defArgs s_bag) (defBody s_bag) (defScope s_bag) .none kV2 dc2 pm2 an2 cd2 ct2), sl2⟩) (c2 : PySem.W.codeIn K cd2 "_law_bag" = true) (k2 : PySem.W.keepIn K (.ref f2) = true)
    {f3 : Addr} {od3 an3 : Option Addr} {sl3 : Array (Option Value)} {oc3 kV3 dc3 pm3 cd3 ct3 : Value}
    (a3 : PySem.W.nsIn K mainGlobals "_law_pick" = some (some (.ref f3))) (l3 : K.lookup f3 = some ⟨oc3, od3, .func (PySem.W.fnOf "_law_pick" "_law_pick" (defArgs s_pick) (defBody s_pick) (defScope s_pick) .none kV3 dc3 pm3 an3 cd3 ct3), sl3⟩) (c3 : PySem.W.codeIn K cd3 "_law_pick" = true) (k3 : PySem.W.keepIn K (.ref f3) = true)
    {f4 : Addr} {od4 an4 : Option Addr} {sl4 : Array (Option Value)} {oc4 kV4 dc4 pm4 cd4 ct4 : Value}
    (a4 : PySem.W.nsIn K mainGlobals "_law_choice" = some (some (.ref f4))) (l4 : K.lookup f4 = some ⟨oc4, od4, .func (PySem.W.fnOf "_law_choice" "_law_choice" (defArgs s_choice) (defBody s_choice) (defScope s_choice) .none kV4 dc4 pm4 an4 cd4 ct4), sl4⟩) (c4 : PySem.W.codeIn K cd4 "_law_choice" = true) (k4 : PySem.W.keepIn K (.ref f4) = true)
    {f5 : Addr} {od5 an5 : Option Addr} {sl5 : Array (Option Value)} {oc5 kV5 dc5 pm5 cd5 ct5 : Value}
    (a5 : PySem.W.nsIn K mainGlobals "_law_mingled" = some (some (.ref f5))) (l5 : K.lookup f5 = some ⟨oc5, od5, .func (PySem.W.fnOf "_law_mingled" "_law_mingled" (defArgs s_mingled) (defBody s_mingled) (defScope s_mingled) .none kV5 dc5 pm5 an5 cd5 ct5), sl5⟩) (c5 : PySem.W.codeIn K cd5 "_law_mingled" = true) (k5 : PySem.W.keepIn K (.ref f5) = true)
    {f6 : Addr} {od6 an6 : Option Addr} {sl6 : Array (Option Value)} {oc6 kV6 dc6 pm6 cd6 ct6 : Value}
    (a6 : PySem.W.nsIn K mainGlobals "_law_number" = some (some (.ref f6))) (l6 : K.lookup f6 = some ⟨oc6, od6, .func (PySem.W.fnOf "_law_number" "_law_number" (defArgs s_number) (defBody s_number) (defScope s_number) .none kV6 dc6 pm6 an6 cd6 ct6), sl6⟩) (c6 : PySem.W.codeIn K cd6 "_law_number" = true) (k6 : PySem.W.keepIn K (.ref f6) = true)
    {f7 : Addr} {od7 an7 : Option Addr} {sl7 : Array (Option Value)} {oc7 kV7 dc7 pm7 cd7 ct7 : Value}
    (a7 : PySem.W.nsIn K mainGlobals "_law_text" = some (some (.ref f7))) (l7 : K.lookup f7 = some ⟨oc7, od7, .func (PySem.W.fnOf "_law_text" "_law_text" (defArgs s_text) (defBody s_text) (defScope s_text) .none kV7 dc7 pm7 an7 cd7 ct7), sl7⟩) (c7 : PySem.W.codeIn K cd7 "_law_text" = true) (k7 : PySem.W.keepIn K (.ref f7) = true)
    {f8 : Addr} {od8 an8 : Option Addr} {sl8 : Array (Option Value)} {oc8 kV8 dc8 pm8 cd8 ct8 : Value}
    (a8 : PySem.W.nsIn K mainGlobals "_law_label" = some (some (.ref f8))) (l8 : K.lookup f8 = some ⟨oc8, od8, .func (PySem.W.fnOf "_law_label" "_law_label" (defArgs s_label) (defBody s_label) (defScope s_label) .none kV8 dc8 pm8 an8 cd8 ct8), sl8⟩) (c8 : PySem.W.codeIn K cd8 "_law_label" = true) (k8 : PySem.W.keepIn K (.ref f8) = true)
    {f9 : Addr} {od9 an9 : Option Addr} {sl9 : Array (Option Value)} {oc9 kV9 dc9 pm9 cd9 ct9 : Value}
    (a9 : PySem.W.nsIn K mainGlobals "_law_pair" = some (some (.ref f9))) (l9 : K.lookup f9 = some ⟨oc9, od9, .func (PySem.W.fnOf "_law_pair" "_law_pair" (defArgs s_pair) (defBody s_pair) (defScope s_pair) .none kV9 dc9 pm9 an9 cd9 ct9), sl9⟩) (c9 : PySem.W.codeIn K cd9 "_law_pair" = true) (k9 : PySem.W.keepIn K (.ref f9) = true)
    {f10 : Addr} {od10 an10 : Option Addr} {sl10 : Array (Option Value)} {oc10 kV10 dc10 pm10 cd10 ct10 : Value}
    (a10 : PySem.W.nsIn K mainGlobals "_law_due" = some (some (.ref f10))) (l10 : K.lookup f10 = some ⟨oc10, od10, .func (PySem.W.fnOf "_law_due" "_law_due" (defArgs s_due) (defBody s_due) (defScope s_due) .none kV10 dc10 pm10 an10 cd10 ct10), sl10⟩) (c10 : PySem.W.codeIn K cd10 "_law_due" = true) (k10 : PySem.W.keepIn K (.ref f10) = true)
    {f11 : Addr} {od11 an11 : Option Addr} {sl11 : Array (Option Value)} {oc11 kV11 dc11 pm11 cd11 ct11 : Value}
    (a11 : PySem.W.nsIn K mainGlobals "_law_is_pair" = some (some (.ref f11))) (l11 : K.lookup f11 = some ⟨oc11, od11, .func (PySem.W.fnOf "_law_is_pair" "_law_is_pair" (defArgs s_is_pair) (defBody s_is_pair) (defScope s_is_pair) .none kV11 dc11 pm11 an11 cd11 ct11), sl11⟩) (c11 : PySem.W.codeIn K cd11 "_law_is_pair" = true) (k11 : PySem.W.keepIn K (.ref f11) = true)
    {f12 : Addr} {od12 an12 : Option Addr} {sl12 : Array (Option Value)} {oc12 kV12 dc12 pm12 cd12 ct12 : Value}
    (a12 : PySem.W.nsIn K mainGlobals "law" = some (some (.ref f12))) (l12 : K.lookup f12 = some ⟨oc12, od12, .func (PySem.W.fnOf "law" "law" (defArgs s_law) (defBody s_law) (defScope s_law) .none kV12 dc12 pm12 an12 cd12 ct12), sl12⟩) (c12 : PySem.W.codeIn K cd12 "law" = true) (k12 : PySem.W.keepIn K (.ref f12) = true)
    (z0 : PySem.W.nsIn K mainGlobals "abs" = some none)
    (z1 : PySem.W.nsIn K mainGlobals "bool" = some none)
    (z2 : PySem.W.nsIn K mainGlobals "enumerate" = some none)
    (z3 : PySem.W.nsIn K mainGlobals "int" = some none)
    (z4 : PySem.W.nsIn K mainGlobals "isinstance" = some none)
    (z5 : PySem.W.nsIn K mainGlobals "len" = some none)
    (z6 : PySem.W.nsIn K mainGlobals "list" = some none)
    (z7 : PySem.W.nsIn K mainGlobals "range" = some none)
    (z8 : PySem.W.nsIn K mainGlobals "str" = some none)
    (z9 : PySem.W.nsIn K mainGlobals "sum" = some none)
    (z10 : PySem.W.nsIn K mainGlobals "tuple" = some none)
    : ∃ T : Top K mg, T.a_law = f12 ∧ ∀ (s : Shared) (v : Value), BindsTo s T.d_law ⟨[v], []⟩ [("_law_script", v)] := by
  have F0 := fun_mk (st := s_measure) l0 c0 k0
  have F1 := fun_mk (st := s_mixed) l1 c1 k1
  have F2 := fun_mk (st := s_bag) l2 c2 k2
  have F3 := fun_mk (st := s_pick) l3 c3 k3
  have F4 := fun_mk (st := s_choice) l4 c4 k4
  have F5 := fun_mk (st := s_mingled) l5 c5 k5
  have F6 := fun_mk (st := s_number) l6 c6 k6
  have F7 := fun_mk (st := s_text) l7 c7 k7
  have F8 := fun_mk (st := s_label) l8 c8 k8
  have F9 := fun_mk (st := s_pair) l9 c9 k9
  have F10 := fun_mk (st := s_due) l10 c10 k10
  have F11 := fun_mk (st := s_is_pair) l11 c11 k11
  have F12 := fun_mk (st := s_law) l12 c12 k12
  exact ⟨⟨PySem.W.mg_none_of X G z0,
    PySem.W.mg_none_of X G z1,
    PySem.W.mg_none_of X G z2,
    PySem.W.mg_none_of X G z3,
    PySem.W.mg_none_of X G z4,
    PySem.W.mg_none_of X G z5,
    PySem.W.mg_none_of X G z6,
    PySem.W.mg_none_of X G z7,
    PySem.W.mg_none_of X G z8,
    PySem.W.mg_none_of X G z9,
    PySem.W.mg_none_of X G z10,
    f0,
    _,
    F0,
    F0.binds (ps := ["label", "sizes"]) (fun _ _ _ _ _ _ us hl => match us, hl with | [_, _], _ => rfl),
    PySem.W.mg_of X G a0,
    f1,
    _,
    F1,
    F1.binds (ps := ["_law_number_here", "_law_turn"]) (fun _ _ _ _ _ _ us hl => match us, hl with | [_, _], _ => rfl),
    PySem.W.mg_of X G a1,
    f2,
    _,
    F2,
    F2.binds (ps := ["_law_script"]) (fun _ _ _ _ _ _ us hl => match us, hl with | [_], _ => rfl),
    PySem.W.mg_of X G a2,
    f3,
    _,
    F3,
    F3.binds (ps := ["_law_bag_here", "_law_many"]) (fun _ _ _ _ _ _ us hl => match us, hl with | [_, _], _ => rfl),
    PySem.W.mg_of X G a3,
    f4,
    _,
    F4,
    F4.binds (ps := ["_law_bag_here", "_law_things"]) (fun _ _ _ _ _ _ us hl => match us, hl with | [_, _], _ => rfl),
    PySem.W.mg_of X G a4,
    f5,
    _,
    F5,
    F5.binds (ps := ["_law_bag_here", "_law_things"]) (fun _ _ _ _ _ _ us hl => match us, hl with | [_, _], _ => rfl),
    PySem.W.mg_of X G a5,
    f6,
    _,
    F6,
    F6.binds (ps := ["_law_thing"]) (fun _ _ _ _ _ _ us hl => match us, hl with | [_], _ => rfl),
    PySem.W.mg_of X G a6,
    f7,
    _,
    F7,
    F7.binds (ps := ["_law_bag_here", "_law_least", "_law_most"]) (fun _ _ _ _ _ _ us hl => match us, hl with | [_, _, _], _ => rfl),
    PySem.W.mg_of X G a7,
    f8,
    _,
    F8,
    F8.binds (ps := ["_law_bag_here"]) (fun _ _ _ _ _ _ us hl => match us, hl with | [_], _ => rfl),
    PySem.W.mg_of X G a8,
    f9,
    _,
    F9,
    F9.binds (ps := ["_law_bag_here", "_law_wide", "_law_high"]) (fun _ _ _ _ _ _ us hl => match us, hl with | [_, _, _], _ => rfl),
    PySem.W.mg_of X G a9,
    f10,
    _,
    F10,
    F10.binds (ps := ["_law_label_here", "_law_pairs"]) (fun _ _ _ _ _ _ us hl => match us, hl with | [_, _], _ => rfl),
    PySem.W.mg_of X G a10,
    f11,
    _,
    F11,
    F11.binds (ps := ["_law_thing"]) (fun _ _ _ _ _ _ us hl => match us, hl with | [_], _ => rfl),
    PySem.W.mg_of X G a11,
    f12,
    _,
    F12,
    F12.binds (ps := ["_law_script"]) (fun _ _ _ _ _ _ us hl => match us, hl with | [_], _ => rfl),
    PySem.W.mg_of X G a12⟩, rfl, fun s v => .of_eq rfl⟩
end K16
open PySem PySem.W PyProof.Rows
set_option maxHeartbeats 0 in
theorem PySem.Challenge.cw_drawnanew_k16_measured_sizes_holds : PySem.Challenge.rw_drawnanew_k16_measured_sizes.Holds := by
  w_on; o_law; k_head; (case hw => w_witness2)
  k_fill
  refine L2.walk_of (l := PySem.Challenge.rw_drawnanew_k16_measured_sizes) (n := 63) (k := 5) (x := "_law_script") (CX := fun _ => L2.CX0) (sp := fun w => K16.spLaw _) rfl (by decide) rfl ⟨rfl, by decide, by decide⟩ (fun w h Y => PySem.W.kIn_of Y) ?F (fun _ _ a ns hl _ hS => ⟨a, ns, rfl, hS, hl, fun _ => rfl⟩) (fun _ _ _ _ _ h => h)
  case F =>
    intro w mg fa h KX G hmg
    refine' K16.law_end KX G hmg (K16.top_mk KX G ?a0 ?l0 ?c0 ?k0 ?a1 ?l1 ?c1 ?k1 ?a2 ?l2 ?c2 ?k2 ?a3 ?l3 ?c3 ?k3 ?a4 ?l4 ?c4 ?k4 ?a5 ?l5 ?c5 ?k5 ?a6 ?l6 ?c6 ?k6 ?a7 ?l7 ?c7 ?k7 ?a8 ?l8 ?c8 ?k8 ?a9 ?l9 ?c9 ?k9 ?a10 ?l10 ?c10 ?k10 ?a11 ?l11 ?c11 ?k11 ?a12 ?l12 ?c12 ?k12 ?z0 ?z1 ?z2 ?z3 ?z4 ?z5 ?z6 ?z7 ?z8 ?z9 ?z10)
    (case a0 => k_is); (case l0 => k_is); (case c0 => k_is); (case k0 => k_is); (case a1 => k_is); (case l1 => k_is); (case c1 => k_is); (case k1 => k_is); (case a2 => k_is); (case l2 => k_is); (case c2 => k_is); (case k2 => k_is); (case a3 => k_is); (case l3 => k_is); (case c3 => k_is); (case k3 => k_is); (case a4 => k_is); (case l4 => k_is); (case c4 => k_is); (case k4 => k_is); (case a5 => k_is); (case l5 => k_is); (case c5 => k_is); (case k5 => k_is); (case a6 => k_is); (case l6 => k_is); (case c6 => k_is); (case k6 => k_is); (case a7 => k_is); (case l7 => k_is); (case c7 => k_is); (case k7 => k_is); (case a8 => k_is); (case l8 => k_is); (case c8 => k_is); (case k8 => k_is); (case a9 => k_is); (case l9 => k_is); (case c9 => k_is); (case k9 => k_is); (case a10 => k_is); (case l10 => k_is); (case c10 => k_is); (case k10 => k_is); (case a11 => k_is); (case l11 => k_is); (case c11 => k_is); (case k11 => k_is); (case a12 => k_is); (case l12 => k_is); (case c12 => k_is); (case k12 => k_is); (case z0 => k_is); (case z1 => k_is); (case z2 => k_is); (case z3 => k_is); (case z4 => k_is); (case z5 => k_is); (case z6 => k_is); (case z7 => k_is); (case z8 => k_is); (case z9 => k_is); (case z10 => k_is)
