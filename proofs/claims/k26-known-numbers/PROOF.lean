import PyProof.Rows.All
import Wide.All
import OpenK.AllK
import Wide.FinOn
import HandS.ForMost
import HandS.Flow
import HandS.IsInst
import HandS.Wide
import HandS.Walk
import PyProof.Rows.IntBool
import HandS.Property
import HandS.Star
import HandS.OwnEq
import HandS.SetFor
import KE.GoesEnum
import KE.GoesMore
import HandS.Strs
import HandS.Deep
import HandS.TupAny
import KE.KRevSl
import KE.KOpsOwn
import HandS.ForExc
import HandS.FStr
import HandS.ExcField
import HandS.ExcIs
import HandS.ExcSuper
import KE.KExcSuper
import KE.KExcIs
import HandS.OwnIter
import HandS.IterNext
import PySem.Challenge.RW_drawnanew_k26_known_numbers
set_option Elab.async false
set_option linter.all false
set_option maxRecDepth 100000
set_option maxHeartbeats 4000000
/-! XBase: readings that compute, over the hand layer; the heap cut into a part that only grows and cells that change. -/
namespace XL
open PySem PySem.Spec PyProof.Rows L2
abbrev St := L2.St

/-! ### a reading may be exchanged for a stronger one -/
theorem pe_str {X : Cx} {e : Expr} {t t' : TE} (h : PE X e t) (k : ∀ σ H Q, t' σ H Q → t σ H Q) : PE X e t' := ⟨fun pins s σ H Q I q => h.run pins s σ H Q I (k σ H Q q)⟩
theorem pt_str {X : Cx} {e : Expr} {t t' : TT} (h : PT X e t) (k : ∀ σ H Q, t' σ H Q → t σ H Q) : PT X e t' := ⟨fun pins s σ H Q I q => h.run pins s σ H Q I (k σ H Q q)⟩
theorem ps_str {X : Cx} {e : Stmt} {t t' : TS} (h : PS X e t) (k : ∀ D σ H, t' D σ H → t D σ H) : PS X e t' := ⟨fun pins s σ H D I q => h.run pins s σ H D I (k D σ H q)⟩
theorem or_str {X : Cx} {f : Value → Value → Sem Value} {r r' : R2} (h : OpR X f r) (k : ∀ x y H Q, r' x y H Q → r x y H Q) : OpR X f r' := fun pins s σ H x y v u Q I rx ry q => h pins s σ H x y v u Q I rx ry (k x y H Q q)
theorem cr_str {X : Cx} {f : Value} {r r' : List V → Hp → VK → Prop} (h : CallR X f r) (k : ∀ xs H Q, r' xs H Q → r xs H Q) : CallR X f r' := fun pins s σ H xs us Q I rx q => h pins s σ H xs us Q I rx (k xs H Q q)
theorem OpR.or {X : Cx} {f : Value → Value → Sem Value} {r r' : R2} (h : OpR X f r) (h' : OpR X f r') : OpR X f (fun x y H Q => r x y H Q ∨ r' x y H Q) := by
  intro pins s σ H x y v u Q I rx ry q
  rcases q with q | q
  · exact h pins s σ H x y v u Q I rx ry q
  · exact h' pins s σ H x y v u Q I rx ry q

/-! ### names -/
def nth : St → Nat → Option V
  | [], _ => none
  | x :: _, 0 => x
  | _ :: r, n + 1 => nth r n
theorem nth_get : ∀ {σ : St} {i : Nat} {v : V}, nth σ i = some v → σ[i]? = some (some v)
  | [], _, _, h => nomatch h
  | _ :: _, 0, _, h => congrArg some h
  | _ :: r, n + 1, _, h => by
    rw [List.getElem?_cons_succ]
    exact nth_get (σ := r) h
def xVar (i : Nat) : TE := fun σ H Q => match nth σ i with
  | some v => Q v H
  | none => False
section
variable {X : Cx} {a b c : Expr} {ta tb tc : TE} {pos : Pos} {tA tB' : TT} {rest : List Expr}
theorem xv (i : Nat) {x : Str} {pos : Pos} (hN : X.N[i]? = some x := by rfl) (hv : Vis X.env.scope x := by first | exact Or.inl rfl | exact Or.inr (Or.inl rfl) | exact Or.inr (Or.inr rfl)) (hd : (x == ("__debug__" : Str)) = false := by decide)
    (hcd : (x == ("__classdict__" : Str)) = false := by decide) : PE X (.Name x pos) (xVar i) := pe_str (pe_var hN hv hd hcd) fun σ H Q h => by
  unfold xVar at h
  cases e : nth σ i with
  | none => rw [e] at h; exact h.elim
  | some v => rw [e] at h; exact ⟨v, nth_get e, h⟩

/-! ### arithmetic -/
theorem op_mul_ib : OpR X (binaryOp .Mult) (fun x y H Q => ∃ i k, x = .int i ∧ y = .bl k ∧ Q (.int (i * b2i k)) H) := by
  intro pins s σ H x y v u Q I rx ry h
  obtain ⟨i, k, rfl, rfl, q⟩ := h
  obtain ⟨t, rfl⟩ := rx
  cases ry
  refine PySem.IntBool.mul_int_bool ?_
  have e : (if k = true then (1 : Int) else 0) = b2i k := by cases k <;> rfl
  rw [e]
  exact ⟨.int (i * b2i k), H, I.tok _, ⟨_, rfl⟩, q⟩
def yAdd : R2 := fun x y H Q => match x, y with
  | .int i, .int j => Q (.int (i + j)) H
  | .int i, .bl k => Q (.int (i + b2i k)) H
  | .str a, .str b => a.length + b.length ≤ sizeLine ∧ ∀ r : Str, r = a ++ b → Q (.str r) H
  | .ref l, .ref b => rCat (.ref l) (.ref b) H Q
  | _, _ => False
theorem op_addY : OpR X (binaryOp .Add) yAdd := by
  refine or_str (OpR.or (op_add (X := X)) (OpR.or (op_add_ib (X := X)) (OpR.or (op_add_str (X := X)) (op_cat (X := X))))) fun x y H Q h => ?_
  unfold yAdd at h
  split at h
  · exact .inl ⟨_, _, rfl, rfl, h⟩
  · exact .inr (.inl ⟨_, _, rfl, rfl, h⟩)
  · exact .inr (.inr (.inl ⟨_, _, rfl, rfl, h.1, h.2 _ rfl⟩))
  · exact .inr (.inr (.inr h))
  · exact h.elim
def ySub : R2 := fun x y H Q => match x, y with
  | .int i, .int j => Q (.int (i - j)) H
  | _, _ => False
theorem op_subY : OpR X (binaryOp .Sub) ySub := by
  refine or_str (op_sub (X := X)) fun x y H Q h => ?_
  unfold ySub at h
  split at h
  · exact ⟨_, _, rfl, rfl, h⟩
  · exact h.elim
def yMul : R2 := fun x y H Q => match x, y with
  | .int i, .int j => CMul i j ∧ Q (.int (i * j)) H
  | .int i, .bl k => Q (.int (i * b2i k)) H
  | .ref l, .int k => rRep (.ref l) (.int k) H Q
  | _, _ => False
theorem op_mulY : OpR X (binaryOp .Mult) yMul := by
  refine or_str (OpR.or (op_mul (X := X)) (OpR.or (op_mul_ib (X := X)) (op_rep (X := X)))) fun x y H Q h => ?_
  unfold yMul at h
  split at h
  · exact .inl ⟨_, _, rfl, rfl, h.1, h.2⟩
  · exact .inr (.inl ⟨_, _, rfl, rfl, h⟩)
  · exact .inr (.inr h)
  · exact h.elim
def yMod : R2 := fun x y H Q => match x, y with
  | .int i, .int j => 0 < j ∧ ∀ r : Int, r = i % j → 0 ≤ r → r < j → Q (.int r) H
  | _, _ => False
theorem op_modY : OpR X (binaryOp .Mod) yMod := by
  refine or_str (op_mod (X := X)) fun x y H Q h => ?_
  unfold yMod at h
  split at h
  · exact ⟨_, _, rfl, rfl, h.1, h.2 _ rfl (Int.emod_nonneg _ (by have := h.1; omega)) (Int.emod_lt_of_pos _ h.1)⟩
  · exact h.elim
def yDiv : R2 := fun x y H Q => match x, y with
  | .int i, .int j => (0 < j ∧ j < 1073741824) ∧ ∀ r : Int, r = i / j → (0 ≤ i → 0 ≤ r) → Q (.int r) H
  | _, _ => False
theorem op_divY : OpR X (binaryOp .FloorDiv) yDiv := by
  refine or_str (op_fdiv (X := X)) fun x y H Q h => ?_
  unfold yDiv at h
  split at h
  · exact ⟨_, _, rfl, rfl, h.1, h.2 _ rfl (fun h0 => Int.ediv_nonneg h0 (by have := h.1.1; omega))⟩
  · exact h.elim
def yPow : R2 := fun x y H Q => match x, y with
  | .int i, .int j => CPow i j ∧ ∀ r : Int, r = i ^ j.toNat → Q (.int r) H
  | _, _ => False
theorem op_powY : OpR X (binaryOp .Pow) yPow := by
  refine or_str (op_pow (X := X)) fun x y H Q h => ?_
  unfold yPow at h
  split at h
  · exact ⟨_, _, rfl, rfl, h.1, h.2 _ rfl⟩
  · exact h.elim

/-! ### comparisons -/
def yCmp (p : Int → Int → Bool) : R2 := fun x y H Q => match x, y with
  | .int i, .int j => Q (.bl (p i j)) H
  | _, _ => False
theorem yCmp_rI {p : Int → Int → Bool} {x y : V} {H : Hp} {Q : VK} (h : yCmp p x y H Q) : rI0 (fun i j => .bl (p i j)) x y H Q := by
  unfold yCmp at h
  split at h
  · exact ⟨_, _, rfl, rfl, h⟩
  · exact h.elim
theorem op_ltY : OpR X (compareOp .Lt) (yCmp fun i j => decide (i < j)) := or_str (op_lt (X := X)) fun _ _ _ _ h => yCmp_rI h
theorem op_leY : OpR X (compareOp .LtE) (yCmp fun i j => decide (i ≤ j)) := or_str (op_le (X := X)) fun _ _ _ _ h => yCmp_rI h
theorem op_gtY : OpR X (compareOp .Gt) (yCmp fun i j => decide (j < i)) := or_str (op_gt (X := X)) fun _ _ _ _ h => yCmp_rI h
theorem op_geY : OpR X (compareOp .GtE) (yCmp fun i j => decide (j ≤ i)) := or_str (op_ge (X := X)) fun _ _ _ _ h => yCmp_rI h
def yEq (K : PySem.W.Frag) : R2 := fun x y H Q => match x, y with
  | .int i, .int j => Q (.bl (decide (i = j))) H
  | .str i, .str j => Q (.bl (decide (i = j))) H
  | .bl i, .bl j => Q (.bl (decide (i = j))) H
  | .ref a, .ref b => rEqD K (.ref a) (.ref b) H Q
  | x, y => scal x y = true ∧ Q (.bl (decide (x = y))) H
def yNe (K : PySem.W.Frag) : R2 := fun x y H Q => match x, y with
  | .int i, .int j => Q (.bl (!decide (i = j))) H
  | .str i, .str j => Q (.bl (!decide (i = j))) H
  | .bl i, .bl j => Q (.bl (!decide (i = j))) H
  | .ref a, .ref b => rNeD K (.ref a) (.ref b) H Q
  | x, y => scal x y = true ∧ Q (.bl (!decide (x = y))) H
theorem deci {i j : Int} : decide (V.int i = V.int j) = decide (i = j) := by by_cases h : i = j <;> simp [h]
theorem decs {i j : Str} : decide (V.str i = V.str j) = decide (i = j) := by by_cases h : i = j <;> simp [h]
theorem decb {i j : Bool} : decide (V.bl i = V.bl j) = decide (i = j) := by by_cases h : i = j <;> simp [h]
theorem op_eqY (hu : X.A.units + 64 < cLine) : OpR X (compareOp .Eq) (yEq X.K) := by
  refine or_str (OpR.or (op_eq (X := X)) (op_eqD hu)) fun x y H Q h => ?_
  unfold yEq at h
  split at h
  · exact .inl ⟨rfl, by rw [deci]; exact h⟩
  · exact .inl ⟨rfl, by rw [decs]; exact h⟩
  · exact .inl ⟨rfl, by rw [decb]; exact h⟩
  · exact .inr h
  · exact .inl h
theorem op_neY (hu : X.A.units + 64 < cLine) : OpR X (compareOp .NotEq) (yNe X.K) := by
  refine or_str (OpR.or (op_ne (X := X)) (op_neD hu)) fun x y H Q h => ?_
  unfold yNe at h
  split at h
  · exact .inl ⟨rfl, by rw [deci]; exact h⟩
  · exact .inl ⟨rfl, by rw [decs]; exact h⟩
  · exact .inl ⟨rfl, by rw [decb]; exact h⟩
  · exact .inr h
  · exact .inl h

/-! ### tests -/
/-- a bool as a test -/
def xB (t : TE) : TT := fun σ H Q => t σ H fun x H1 => match x with
  | .bl c => Q c H1
  | _ => False
theorem pe_mono {X : Cx} {e : Expr} {t : TE} (_h : PE X e t) : True := trivial
theorem xt_cmp {op : CmpOp} {r : R2} (ho : OpR X (compareOp op) r) (ha : PE X a ta) (hb : PE X b tb) (hm : behindInMarks op b = false) : PT X (.Compare a [op] [b] pos) (xB (tOp r ta tb)) := by
  refine ⟨fun pins s σ H Q I h => ?_⟩
  refine wpAny_isTrue_Compare1 (thn (ha.run pins s σ H _ I h) fun v s1 ⟨x, H1, I1, r1, q1⟩ => thn (hb.run pins s1 σ H1 _ I1 q1) fun u s2 ⟨y, H2, I2, r2, q2⟩ =>
    thn (ho pins s2 σ H2 x y v u _ I2 r1 r2 q2) fun c s3 ⟨z, H3, I3, r3, q3⟩ => ?_) hm
  cases z with
  | bl k =>
    cases r3
    exact wpAny_truthy_bool ⟨H3, I3, q3⟩
  | _ => exact False.elim q3
theorem xt_val {e : Expr} {t : TE} (h : PE X e t) (he : ∀ whole, isTrue e X.env whole = (do let v ← whole; standAt e.pos; holding [v] (truthy v)) := by intro _; rfl) : PT X e (xB t) := by
  refine ⟨fun pins s σ H Q I hw => ?_⟩
  refine isTrue_plain (thn (h.run pins s σ H _ I hw) fun v s1 ⟨x, H1, I1, r1, q1⟩ => ?_) (he _)
  cases x with
  | bl k =>
    cases r1
    exact wpAny_truthy_bool ⟨H1, I1, q1⟩
  | _ => exact False.elim q1
/-- the truth of a value -/
def yTru (K : PySem.W.Frag) (x : V) (H : Hp) (Q : Bool → Hp → Prop) : Prop := match x with
  | .bl c => Q c H
  | .int i => Q (i != 0) H
  | .non => Q false H
  | x => ∃ k, TruV K x H k ∧ Q k H
def xTru (K : PySem.W.Frag) (t : TE) : TT := fun σ H Q => t σ H fun x H1 => yTru K x H1 Q
theorem xt_tru (ha : PE X a ta) (he : ∀ whole, isTrue a X.env whole = (do let v ← whole; standAt a.pos; holding [v] (truthy v)) := by intro _; rfl) : PT X a (xTru X.K ta) := by
  have hq : PE X a (fun σ H Q => ta σ H Q) := ha
  refine ⟨fun pins s σ H Q I hw => ?_⟩
  refine isTrue_plain (thn (ha.run pins s σ H _ I hw) fun v s1 ⟨x, H1, I1, r1, q1⟩ => ?_) (he _)
  have q2 : ∃ k, TruV X.K x H1 k ∧ Q k H1 := by
    change yTru X.K x H1 Q at q1
    unfold yTru at q1
    split at q1
    · exact ⟨_, rfl, q1⟩
    · exact ⟨_, rfl, q1⟩
    · exact ⟨_, rfl, q1⟩
    · exact q1
  exact tru_ok pins s1 σ H1 x v Q I1 r1 q2
def xAnd (t u : TT) : TT := fun σ H Q => t σ H fun c H1 => (c = true → u σ H1 Q) ∧ (c = false → Q false H1)
def xOr (t u : TT) : TT := fun σ H Q => t σ H fun c H1 => (c = true → Q true H1) ∧ (c = false → u σ H1 Q)
theorem xw_and (ha : PT X a tA) (hb : PW X (.BoolOp .And (b :: rest) pos) tB') : PW X (.BoolOp .And (a :: b :: rest) pos) (xAnd tA tB') := by
  refine ⟨fun wh pins s0 σ H Q J h => ?_⟩
  refine isTrue_and (thn (ha.run pins s0 σ H _ J h) fun k s2 ⟨H2, J2, q2⟩ => ?_)
  cases k with
  | true => exact hb.run wh pins s2 σ H2 Q J2 (q2.1 rfl)
  | false => exact ⟨H2, J2, q2.2 rfl⟩
theorem xw_or (ha : PT X a tA) (hb : PW X (.BoolOp .Or (b :: rest) pos) tB') : PW X (.BoolOp .Or (a :: b :: rest) pos) (xOr tA tB') := by
  refine ⟨fun wh pins s0 σ H Q J h => ?_⟩
  refine isTrue_or (thn (ha.run pins s0 σ H _ J h) fun k s2 ⟨H2, J2, q2⟩ => ?_)
  cases k with
  | true => exact ⟨H2, J2, q2.1 rfl⟩
  | false => exact hb.run wh pins s2 σ H2 Q J2 (q2.2 rfl)
/-- and, or, not as values: of bools -/
def xAndV (ta tb : TE) : TE := fun σ H Q => ta σ H fun x H1 => match x with
  | .bl c => (c = true → tb σ H1 Q) ∧ (c = false → Q (.bl false) H1)
  | _ => False
def xOrV (ta tb : TE) : TE := fun σ H Q => ta σ H fun x H1 => match x with
  | .bl c => (c = true → Q (.bl true) H1) ∧ (c = false → tb σ H1 Q)
  | _ => False
def xNotV (ta : TE) : TE := fun σ H Q => ta σ H fun x H1 => match x with
  | .bl c => Q (.bl (!c)) H1
  | _ => False
theorem xe_and (ha : PE X a ta) (hb : PE X (.BoolOp .And (b :: rest) pos) tb) : PE X (.BoolOp .And (a :: b :: rest) pos) (xAndV ta tb) := by
  refine ⟨fun pins s0 σ H Q J h => ?_⟩
  refine BoolOp_and (thn (ha.run pins s0 σ H _ J h) fun v s2 ⟨x, H2, J2, r2, q2⟩ => ?_)
  cases x with
  | bl k =>
    cases r2
    refine wpAny_truthy_bool ?_
    cases k with
    | true => exact hb.run pins s2 σ H2 Q J2 (q2.1 rfl)
    | false => exact ⟨.bl false, H2, J2, rfl, q2.2 rfl⟩
  | _ => exact False.elim q2
theorem xe_or (ha : PE X a ta) (hb : PE X (.BoolOp .Or (b :: rest) pos) tb) : PE X (.BoolOp .Or (a :: b :: rest) pos) (xOrV ta tb) := by
  refine ⟨fun pins s0 σ H Q J h => ?_⟩
  refine BoolOp_or (thn (ha.run pins s0 σ H _ J h) fun v s2 ⟨x, H2, J2, r2, q2⟩ => ?_)
  cases x with
  | bl k =>
    cases r2
    refine wpAny_truthy_bool ?_
    cases k with
    | true => exact ⟨.bl true, H2, J2, rfl, q2.1 rfl⟩
    | false => exact hb.run pins s2 σ H2 Q J2 (q2.2 rfl)
  | _ => exact False.elim q2
theorem xe_not (ha : PE X a ta) : PE X (.UnaryOp .Not a pos) (xNotV ta) := by
  refine ⟨fun pins s0 σ H Q J h => ?_⟩
  refine UnaryOp_ (thn (ha.run pins s0 σ H _ J h) fun v s2 ⟨x, H2, J2, r2, q2⟩ => ?_)
  cases x with
  | bl k =>
    cases r2
    exact not_of (wpAny_truthy_bool ⟨.bl (!k), H2, J2, rfl, q2⟩)
  | _ => exact False.elim q2
/-- a if t else b -/
def xIf (t : TT) (ta tb : TE) : TE := fun σ H Q => t σ H fun c H1 => (c = true → ta σ H1 Q) ∧ (c = false → tb σ H1 Q)
theorem xe_if {c : Expr} (hc : PT X c tA) (ha : PE X a ta) (hb : PE X b tb) : PE X (.IfExp c a b pos) (xIf tA ta tb) := by
  refine ⟨fun pins s0 σ H Q J h => ?_⟩
  refine wpAny_IfExp (thn (hc.run pins s0 σ H _ J h) fun k s2 ⟨H2, J2, q2⟩ => ?_)
  cases k with
  | true => exact ha.run pins s2 σ H2 Q J2 (q2.1 rfl)
  | false => exact hb.run pins s2 σ H2 Q J2 (q2.2 rfl)
/-- if t: .. else: .. -/
def xIfS (c : TT) (t u : TS) : TS := fun D σ H => c σ H fun b H1 => (b = true → t D σ H1) ∧ (b = false → u D σ H1)
theorem xs_if {c : Expr} {as bs : List Stmt} {tc : TT} {t u : TS} (hc : PT X c tc) (ha : PSs X as t) (hb : PSs X bs u) : PS X (.If c as bs pos) (xIfS tc t u) := by
  refine ⟨fun pins s0 σ H D J h => ?_⟩
  refine wpAny_If (thn (hc.run pins s0 σ H _ J h) fun k s2 ⟨H2, J2, q2⟩ => ?_)
  cases k with
  | true => exact ha.run pins s2 σ H2 D J2 (q2.1 rfl)
  | false => exact hb.run pins s2 σ H2 D J2 (q2.2 rfl)

/-! ### calls of built-ins -/
def yLen (K : PySem.W.Frag) : List V → Hp → VK → Prop := fun xs H Q => match xs with
  | [.str y] => y.length ≤ sizeLine ∧ Q (.int y.length) H
  | [.ref p] => ∃ ys, (SqL K H p ys ∨ SqT K H p ys) ∧ Q (.int ys.length) H
  | _ => False
theorem cr_len : CallR X (.builtin "len") (yLen X.K) := by
  refine cr_str (call_len (X := X)) fun xs H Q h => ?_
  unfold yLen at h
  split at h
  · exact ⟨_, _, rfl, ⟨h.1, rfl⟩, h.2⟩
  · obtain ⟨ys, hy, q⟩ := h
    rcases hy with hy | hy
    · exact ⟨_, _, rfl, .inl ⟨ys, hy, rfl⟩, q⟩
    · exact ⟨_, _, rfl, .inr ⟨ys, hy, rfl⟩, q⟩
  · exact h.elim
def yInt : List V → Hp → VK → Prop := fun xs H Q => match xs with
  | [.int i] => Q (.int i) H
  | [.bl k] => Q (.int (if k then 1 else 0)) H
  | [.str z] => ∃ n, PySem.intText? z = some n ∧ z.length ≤ 640 ∧ Q (.int n) H
  | _ => False
theorem cr_int : CallR X (.type "int") yInt := by
  refine cr_str (CallR.or (call_int1 (X := X)) (call_int_str (X := X))) fun xs H Q h => ?_
  unfold yInt at h
  split at h
  · exact .inl (.inl ⟨_, rfl, h⟩)
  · exact .inl (.inr ⟨_, rfl, h⟩)
  · obtain ⟨n, h1, h2, q⟩ := h
    exact .inr ⟨_, n, rfl, h1, h2, q⟩
  · exact h.elim
def yAbs : List V → Hp → VK → Prop := fun xs H Q => match xs with
  | [.int i] => Q (.int i.natAbs) H
  | _ => False
theorem cr_abs : CallR X (.builtin "abs") yAbs := by
  refine cr_str (call_abs (X := X)) fun xs H Q h => ?_
  unfold yAbs at h
  split at h
  · rename_i i
    refine ⟨i, rfl, ?_⟩
    have e : (if i < 0 then -i else i) = (i.natAbs : Int) := by split <;> omega
    rw [e]
    exact h
  · exact h.elim
def yStr : List V → Hp → VK → Prop := fun xs H Q => match xs with
  | [.int i] => i.natAbs.log2 < 1920 ∧ Q (.str (toString i)) H
  | _ => False
theorem cr_strI : CallR X (.type "str") yStr := by
  refine cr_str (call_str_int (X := X)) fun xs H Q h => ?_
  unfold yStr at h
  split at h
  · exact ⟨_, rfl, h.1, h.2⟩
  · exact h.elim
def yIx (K : PySem.W.Frag) : R2 := fun x y H Q => match x, y with
  | .ref p, .int i => ∃ xs v, (SqL K H p xs ∨ SqT K H p xs) ∧ atI xs i = some v ∧ Q v H
  | .str z, .int i => ∃ c, z.length ≤ sizeLine ∧ atI z.cps.toList i = some c ∧ Q (.str ⟨#[c]⟩) H
  | _, _ => False
theorem ix_y : IxR X (yIx X.K) := by
  intro value slice pins s σ H x y v u Q I rx ry h hs
  refine ix_seq (X := X) value slice pins s σ H x y v u Q I rx ry ?_ hs
  unfold yIx at h
  split at h
  · obtain ⟨xs, z, h1, h2, q⟩ := h
    rcases h1 with h1 | h1
    · exact .inl ⟨_, xs, _, z, rfl, rfl, h1, h2, q⟩
    · exact .inr (.inl ⟨_, xs, _, z, rfl, rfl, h1, h2, q⟩)
  · obtain ⟨k, h1, h2, q⟩ := h
    exact .inr (.inr ⟨_, _, k, rfl, rfl, h1, h2, q⟩)
  · exact h.elim
end

/-! ### the heap: what only grows, and the cells that change -/
def Sep (G : Hp) (M : List (Addr × HO)) (H : Hp) : Prop := Same G H ∧ (∀ p ∈ M, H p.1 = some p.2 ∧ G p.1 = none) ∧ (M.map (·.1)).Nodup
section
variable {G G' H H' : Hp} {M : List (Addr × HO)} {p a b : Addr} {o o' u : HO}
theorem same_upd (h : H p = none) : Same H (upd H p o) := fun b x e => by
  rw [upd_ne (ne_of_none e h)]
  exact e
theorem sep0 : Sep H [] H := ⟨Same.refl H, (fun _ h => nomatch h), List.nodup_nil⟩
theorem Sep.st (S : Sep G M H) (h : G a = some o) : H a = some o := S.1 a o h
theorem Sep.hd (S : Sep G ((a, o) :: M) H) : H a = some o := (S.2.1 _ List.mem_cons_self).1
theorem Sep.at (S : Sep G M H) (h : (a, o) ∈ M) : H a = some o := (S.2.1 _ h).1
theorem Sep.fresh (S : Sep G M H) (h : H p = none) : G p = none := S.1.free h
theorem Sep.new (S : Sep G M H) (h : H p = none) : Sep G ((p, o) :: M) (upd H p o) := by
  refine ⟨S.1.trans (same_upd h), fun q hq => ?_, ?_⟩
  · rcases List.mem_cons.mp hq with rfl | hq
    · exact ⟨upd_same, S.fresh h⟩
    · exact ⟨same_upd h _ _ (S.2.1 q hq).1, (S.2.1 q hq).2⟩
  · rw [List.map_cons, List.nodup_cons]
    refine ⟨fun hm => ?_, S.2.2⟩
    obtain ⟨q, hq, e⟩ := List.mem_map.mp hm
    have z := (S.2.1 q hq).1
    rw [e, h] at z
    cases z
theorem Sep.newG (S : Sep G M H) (h : H p = none) : Sep (upd G p o) M (upd H p o) := by
  refine ⟨fun b x e => ?_, fun q hq => ?_, S.2.2⟩
  · by_cases hb : b = p
    · subst hb
      rw [upd_same] at e ⊢
      exact e
    · rw [upd_ne hb] at e ⊢
      exact S.1 b x e
  · have z := S.2.1 q hq
    refine ⟨same_upd h _ _ z.1, ?_⟩
    rw [upd_ne (ne_of_none z.1 h)]
    exact z.2
theorem Sep.grow (S : Sep G M H) (h : H p = none) : Same G (upd G p o) := same_upd (S.fresh h)
theorem Sep.set (S : Sep G ((a, o) :: M) H) : Sep G ((a, o') :: M) (upd H a o') := by
  have hn := S.2.2
  rw [List.map_cons, List.nodup_cons] at hn
  have ha := S.2.1 _ List.mem_cons_self
  refine ⟨fun b x e => ?_, fun q hq => ?_, S.2.2⟩
  · rw [upd_ne (ne_of_none e ha.2)]
    exact S.1 b x e
  · rcases List.mem_cons.mp hq with rfl | hq
    · exact ⟨upd_same, ha.2⟩
    · refine ⟨?_, (S.2.1 q (List.mem_cons_of_mem _ hq)).2⟩
      rw [upd_ne (show q.1 ≠ a from fun e => hn.1 (by have z : q.1 ∈ M.map (·.1) := List.mem_map_of_mem hq
                                                      rw [e] at z; exact z))]
      exact (S.2.1 q (List.mem_cons_of_mem _ hq)).1
theorem Sep.frz (S : Sep G ((a, o) :: M) H) : Sep (upd G a o) M H := by
  have hn := S.2.2
  rw [List.map_cons, List.nodup_cons] at hn
  have ha := S.2.1 _ List.mem_cons_self
  refine ⟨fun b x e => ?_, fun q hq => ?_, hn.2⟩
  · by_cases hb : b = a
    · subst hb
      rw [upd_same] at e
      cases e
      exact ha.1
    · rw [upd_ne hb] at e
      exact S.1 b x e
  · have z := S.2.1 q (List.mem_cons_of_mem _ hq)
    refine ⟨z.1, ?_⟩
    rw [upd_ne (show q.1 ≠ a from fun e => hn.1 (by have z : q.1 ∈ M.map (·.1) := List.mem_map_of_mem hq
                                                    rw [e] at z; exact z))]
    exact z.2
theorem Sep.none (S : Sep G ((a, o) :: M) H) : G a = none := (S.2.1 _ List.mem_cons_self).2
theorem Sep.frzS (S : Sep G ((a, o) :: M) H) : Same G (upd G a o) := same_upd S.none
theorem Sep.drop {q : Addr × HO} (S : Sep G (q :: M) H) : Sep G M H := by
  have hn := S.2.2
  rw [List.map_cons, List.nodup_cons] at hn
  exact ⟨S.1, fun p hp => S.2.1 p (List.mem_cons_of_mem _ hp), hn.2⟩
theorem Sep.perm {M' : List (Addr × HO)} (S : Sep G M H) (h : M.Perm M') : Sep G M' H :=
  ⟨S.1, fun q hq => S.2.1 q (h.mem_iff.mpr hq), (h.map _).nodup_iff.mp S.2.2⟩
theorem Sep.sw {q r : Addr × HO} (S : Sep G (q :: r :: M) H) : Sep G (r :: q :: M) H := S.perm (List.Perm.swap _ _ _)
theorem same_l {K : PySem.W.Frag} {xs : List V} (e : Same H H') (h : SqL K H a xs) : SqL K H' a xs := e.seq h
theorem same_t {K : PySem.W.Frag} {xs : List V} (e : Same H H') (h : SqT K H a xs) : SqT K H' a xs := by
  rcases h with (h | ⟨o, h⟩) | h
  · exact .inl (.inl (e _ _ h))
  · exact .inl (.inr ⟨o, e _ _ h⟩)
  · exact .inr h
theorem Sep.l {K : PySem.W.Frag} {xs : List V} (S : Sep G M H) (h : SqL K G a xs) : SqL K H a xs := same_l S.1 h
theorem Sep.t {K : PySem.W.Frag} {xs : List V} (S : Sep G M H) (h : SqT K G a xs) : SqT K H a xs := same_t S.1 h
end
mutual
theorem dp_same {K : PySem.W.Frag} {H H' : Hp} (e : Same H H') : ∀ {d : PyData} {v : V}, Dp K H v d → Dp K H' v d
  | _, _, .non => .non
  | _, _, .bl b => .bl b
  | _, _, .int i => .int i
  | _, _, .str x => .str x
  | _, _, .lst h hs => .lst (same_l e h) (dpa_same e hs)
  | _, _, .tup h hs => .tup (same_t e h) (dpa_same e hs)
theorem dpa_same {K : PySem.W.Frag} {H H' : Hp} (e : Same H H') : ∀ {ds : List PyData} {vs : List V}, DpAll K H vs ds → DpAll K H' vs ds
  | _, _, .nil => .nil
  | _, _, .cons h hs => .cons (dp_same e h) (dpa_same e hs)
end

/-! ### loops by what has been gone through -/
theorem take_pre {α : Type} {xs : List α} {i : Nat} {x : α} (h : xs[i]? = some x) : xs = xs.take i ++ x :: xs.drop (i + 1) ∧ xs.take (i + 1) = xs.take i ++ [x] := by
  have hi : i < xs.length := (List.getElem?_eq_some_iff.mp h).1
  have e : xs[i] = x := (List.getElem?_eq_some_iff.mp h).2
  refine ⟨?_, ?_⟩
  · rw [← e, List.getElem_cons_drop, List.take_append_drop]
  · rw [List.take_add_one, h]
    rfl
section
variable {K : PySem.W.Frag} {a : Addr} {xs : List V} {g : TG} {tb : TS} {D : Ends} {σ : L2.St} {H : Hp}
theorem for_pre (Pv : List V → L2.St → Hp → Prop) (h0 : Pv [] σ H) (hl : ∀ pre σ H, Pv pre σ H → SqL K H a xs)
    (hs : ∀ pre x post σ H, xs = pre ++ x :: post → Pv pre σ H → g x σ H fun σ2 H2 => tb { D with nx := Pv (pre ++ [x]), ct := Pv (pre ++ [x]), bk := D.nx } σ2 H2) (hd : ∀ σ H, Pv xs σ H → D.nx σ H) :
    ∃ W : Nat → Nat → L2.St → Hp → Prop, (∃ m, W 0 m σ H) ∧ ∀ i m σ H, W i m σ H →
      ((Itl K a).stop i H ∧ D.nx σ H) ∨ ((Itl K a).go i H ∧ ∃ N : L2.St → Hp → Prop, (∀ σ' H', N σ' H' → ∃ m', m' < m ∧ W (i + 1) m' σ' H') ∧ ∀ x H', (Itl K a).yld i H x H' → g x σ H' fun σ2 H2 => tb { D with nx := N, ct := N, bk := D.nx } σ2 H2) :=
  for_list (fun i => Pv (xs.take i)) h0 (fun i σ H _ p => hl _ σ H p) (fun i x σ H hx p => by
    rw [(take_pre hx).2]
    exact hs _ x _ σ H (take_pre hx).1 p) (fun σ H p => hd σ H (by rw [List.take_length] at p; exact p))
theorem for_preT (Pv : List V → L2.St → Hp → Prop) (h0 : Pv [] σ H) (hl : ∀ pre σ H, Pv pre σ H → SqT K H a xs)
    (hs : ∀ pre x post σ H, xs = pre ++ x :: post → Pv pre σ H → g x σ H fun σ2 H2 => tb { D with nx := Pv (pre ++ [x]), ct := Pv (pre ++ [x]), bk := D.nx } σ2 H2) (hd : ∀ σ H, Pv xs σ H → D.nx σ H) :
    ∃ W : Nat → Nat → L2.St → Hp → Prop, (∃ m, W 0 m σ H) ∧ ∀ i m σ H, W i m σ H →
      ((Itt K a).stop i H ∧ D.nx σ H) ∨ ((Itt K a).go i H ∧ ∃ N : L2.St → Hp → Prop, (∀ σ' H', N σ' H' → ∃ m', m' < m ∧ W (i + 1) m' σ' H') ∧ ∀ x H', (Itt K a).yld i H x H' → g x σ H' fun σ2 H2 => tb { D with nx := N, ct := N, bk := D.nx } σ2 H2) :=
  for_tup (fun i => Pv (xs.take i)) h0 (fun i σ H _ p => hl _ σ H p) (fun i x σ H hx p => by
    rw [(take_pre hx).2]
    exact hs _ x _ σ H (take_pre hx).1 p) (fun σ H p => hd σ H (by rw [List.take_length] at p; exact p))
/-- for i, x in enumerate(xs) -/
theorem for_enum {i j : Nat} (Pv : List V → L2.St → Hp → Prop) (h0 : Pv [] σ H) (hl : ∀ pre σ H, Pv pre σ H → SqL K H a xs)
    (hs : ∀ pre x post σ H T, xs = pre ++ x :: post → Pv pre σ H → H T = none →
      tb { D with nx := Pv (pre ++ [x]), ct := Pv (pre ++ [x]), bk := D.nx } ((σ.set i (some (.int (pre.length : Nat)))).set j (some x)) (upd H T (.tup [.int (pre.length : Nat), x]))) (hd : ∀ σ H, Pv xs σ H → D.nx σ H) :
    ∃ W : Nat → Nat → L2.St → Hp → Prop, (∃ m, W 0 m σ H) ∧ ∀ k m σ H, W k m σ H →
      ((Ite K a).stop k H ∧ D.nx σ H) ∨ ((Ite K a).go k H ∧ ∃ N : L2.St → Hp → Prop, (∀ σ' H', N σ' H' → ∃ m', m' < m ∧ W (k + 1) m' σ' H') ∧ ∀ x H', (Ite K a).yld k H x H' →
        (gTup K 2 (gCons (gName i) (gCons (gName j) gNil))) x σ H' fun σ2 H2 => tb { D with nx := N, ct := N, bk := D.nx } σ2 H2) := by
  refine ⟨fun k m σ H => m = xs.length - k ∧ k ≤ xs.length ∧ Pv (xs.take k) σ H, ⟨xs.length, by simp, Nat.zero_le _, h0⟩, ?_⟩
  rintro k m σ H ⟨rfl, hk, p⟩
  have q := hl _ σ H p
  by_cases hlt : k < xs.length
  · refine .inr ⟨⟨xs, xs[k], q, by simp [hlt]⟩, Pv (xs.take (k + 1)), fun σ' H' p' => ⟨xs.length - (k + 1), by omega, rfl, hlt, p'⟩, fun v H' y => ?_⟩
    obtain ⟨T, x, rfl, nT, rfl, hx⟩ := y
    have hx := hx xs q
    refine ⟨T, _, rfl, SqT.of upd_same, rfl, _, _, rfl, _, _, rfl, rfl, ?_⟩
    have z := hs _ x _ σ H T (take_pre hx).1 p nT
    rw [(take_pre hx).2]
    rw [show (xs.take k).length = k by rw [List.length_take]; omega] at z
    exact z
  · have e : k = xs.length := by omega
    subst e
    rw [List.take_length] at p
    exact .inl ⟨⟨xs, q, Nat.le_refl _⟩, hd σ H p⟩
/-- [e for x in xs] -/
theorem lc_pre {te : TE} {vs : List Nat} {i : Nat} {H1 : Hp} {L : Addr} {Qd : Hp → Prop} (Pv : List V → Hp → Prop) (h0 : Pv [] (upd H1 L (.lst []))) (hl : ∀ pre H, Pv pre H → SqL K H a xs)
    (hw : ∀ x, wipe ((wipe σ vs).set i (some x)) vs = wipe σ vs)
    (hs : ∀ pre x post H, xs = pre ++ x :: post → Pv pre H → te ((wipe σ vs).set i (some x)) H fun y H4 => ∃ acc, H4 L = some (.lst acc) ∧ acc.length < sizeLine ∧ Pv (pre ++ [x]) (upd H4 L (.lst (acc ++ [y])))) (hd : ∀ H, Pv xs H → Qd H) :
    ∃ W : Nat → Nat → Hp → Prop, (∃ m, W 0 m (upd H1 L (.lst []))) ∧ ∀ k m H, W k m H →
      ((Itl K a).stop k H ∧ Qd H) ∨ ((Itl K a).go k H ∧ ∃ Nx : Hp → Prop, (∀ H', Nx H' → ∃ m', m' < m ∧ W (k + 1) m' H') ∧ ∀ x H', (Itl K a).yld k H x H' → gName i x (wipe σ vs) H' fun σ2 H2 => wipe σ2 vs = wipe σ vs ∧ tYes σ2 H2 fun b H3 =>
        if b = true then te σ2 H3 fun y H4 => ∃ acc, H4 L = some (.lst acc) ∧ acc.length < sizeLine ∧ Nx (upd H4 L (.lst (acc ++ [y]))) else Nx H3) :=
  lc_list (fun k => Pv (xs.take k)) h0 (fun k H _ p => hl _ H p) (fun k x H hx p => ⟨hw x, by
    rw [(take_pre hx).2]
    exact hs _ x _ H (take_pre hx).1 p⟩) (fun H p => hd H (by rw [List.take_length] at p; exact p))
/-- [e for x in range(n)] -/
theorem lc_rng {te : TE} {vs : List Nat} {i : Nat} {n : Nat} {lo : Int} {H1 : Hp} {L : Addr} {Qd : Hp → Prop} (Pv : Nat → Hp → Prop) (h0 : Pv 0 (upd H1 L (.lst [])))
    (hw : ∀ x, wipe ((wipe σ vs).set i (some x)) vs = wipe σ vs)
    (hs : ∀ k H, k < n → Pv k H → te ((wipe σ vs).set i (some (.int (lo + k)))) H fun y H4 => ∃ acc, H4 L = some (.lst acc) ∧ acc.length < sizeLine ∧ Pv (k + 1) (upd H4 L (.lst (acc ++ [y])))) (hd : ∀ H, Pv n H → Qd H) :
    ∃ W : Nat → Nat → Hp → Prop, (∃ m, W 0 m (upd H1 L (.lst []))) ∧ ∀ k m H, W k m H →
      ((Itr lo n).stop k H ∧ Qd H) ∨ ((Itr lo n).go k H ∧ ∃ Nx : Hp → Prop, (∀ H', Nx H' → ∃ m', m' < m ∧ W (k + 1) m' H') ∧ ∀ x H', (Itr lo n).yld k H x H' → gName i x (wipe σ vs) H' fun σ2 H2 => wipe σ2 vs = wipe σ vs ∧ tYes σ2 H2 fun b H3 =>
        if b = true then te σ2 H3 fun y H4 => ∃ acc, H4 L = some (.lst acc) ∧ acc.length < sizeLine ∧ Nx (upd H4 L (.lst (acc ++ [y]))) else Nx H3) :=
  lc_range (lo := lo) (n := n) Pv h0 (fun k H hk p => ⟨hw _, hs k H hk p⟩) hd
end
/-! ### places of lists -/
theorem atI_in {α : Type} {xs : List α} {i : Int} (h0 : 0 ≤ i) (h1 : i < xs.length) : ∃ v, atI xs i = some v ∧ v ∈ xs := by
  obtain ⟨j, rfl⟩ : ∃ j : Nat, i = (j : Int) := ⟨i.toNat, by omega⟩
  have hj : j < xs.length := by omega
  exact ⟨xs[j], atI_nat (List.getElem?_eq_getElem hj), List.getElem_mem hj⟩
theorem small {n : Nat} (h : n ≤ 100000) : n ≤ sizeLine := Nat.le_trans h (by decide)
theorem smallL {n : Nat} (h : n < 100000) : n < sizeLine := Nat.lt_of_lt_of_le h (by decide)
theorem sz {n : Nat} (h : Nat.ble n 100000 = true := by rfl) : n ≤ sizeLine := small (Nat.le_of_ble_eq_true h)
theorem seqIdx {i : Int} {n : Nat} (h0 : 0 ≤ i) (h1 : i < n) : seqIndex? i n = some i.toNat := by
  unfold seqIndex?
  have e : (if i < 0 then i + n else i) = i := by rw [if_neg (by omega)]
  simp only [e]
  rw [if_pos (by simp; omega)]
theorem atN {α : Type} {xs : List α} {i : Int} {v : α} (h0 : 0 ≤ i) (h : atI xs i = some v) : xs[i.toNat]? = some v := by
  obtain ⟨j, rfl⟩ : ∃ j : Nat, i = (j : Int) := ⟨i.toNat, by omega⟩
  unfold atI ixN at h
  rw [if_pos (by omega)] at h
  split at h
  · simpa using h
  · cases h
theorem mem_erase {α : Type} {xs : List α} {k : Nat} {y : α} (h : y ∈ xs.eraseIdx k) : y ∈ xs := List.mem_of_mem_eraseIdx h
/-- the i-th of a paired list -/
theorem prd_get {α β : Type} {F : α → β → Prop} : ∀ {xs : List α} {ys : List β} {i : Nat} {x : α}, Paired F xs ys → xs[i]? = some x → ∃ y, ys[i]? = some y ∧ F x y
  | _, _, _, _, .nil, h => by simp at h
  | _, _, 0, _, .cons r _, h => by
    simp at h
    subst h
    exact ⟨_, rfl, r⟩
  | _, _, i + 1, _, .cons _ t, h => by
    rw [List.getElem?_cons_succ] at h
    obtain ⟨y, h1, h2⟩ := prd_get t h
    exact ⟨y, by rw [List.getElem?_cons_succ]; exact h1, h2⟩
theorem prd_len {α β : Type} {F : α → β → Prop} : ∀ {xs : List α} {ys : List β}, Paired F xs ys → xs.length = ys.length
  | _, _, .nil => rfl
  | _, _, .cons _ t => congrArg (· + 1) (prd_len t)
theorem prd_imp {α β : Type} {F F' : α → β → Prop} (k : ∀ x y, F x y → F' x y) : ∀ {xs : List α} {ys : List β}, Paired F xs ys → Paired F' xs ys
  | _, _, .nil => .nil
  | _, _, .cons r t => .cons (k _ _ r) (prd_imp k t)
theorem prd_app {α β : Type} {F : α → β → Prop} : ∀ {xs xs' : List α} {ys ys' : List β}, Paired F xs ys → Paired F xs' ys' → Paired F (xs ++ xs') (ys ++ ys')
  | _, _, _, _, .nil, s => s
  | _, _, _, _, .cons r t, s => .cons r (prd_app t s)
theorem prd_take {α β : Type} {F : α → β → Prop} : ∀ {xs : List α} {ys : List β} (n : Nat), Paired F xs ys → Paired F (xs.take n) (ys.take n)
  | _, _, 0, _ => .nil
  | _, _, _ + 1, .nil => .nil
  | _, _, n + 1, .cons r t => .cons r (prd_take n t)
/-- each has a partner -/
theorem prd_ex {α β : Type} {F : α → β → Prop} : ∀ {xs : List α}, (∀ x ∈ xs, ∃ y, F x y) → ∃ ys, Paired F xs ys
  | [], _ => ⟨[], .nil⟩
  | x :: r, h => by
    obtain ⟨y, hy⟩ := h x List.mem_cons_self
    obtain ⟨ys, hs⟩ := prd_ex fun x hx => h x (List.mem_cons_of_mem _ hx)
    exact ⟨y :: ys, .cons hy hs⟩
theorem prd_mem {α β : Type} {F : α → β → Prop} {x : α} : ∀ {xs : List α} {ys : List β}, Paired F xs ys → x ∈ xs → ∃ y ∈ ys, F x y
  | _, _, .nil, h => nomatch h
  | _, _, .cons (b := b) r t, h => by
    rcases List.mem_cons.mp h with rfl | h
    · exact ⟨b, List.mem_cons_self, r⟩
    · obtain ⟨y, h1, h2⟩ := prd_mem t h
      exact ⟨y, List.mem_cons_of_mem _ h1, h2⟩
/-- a statement and what follows it, with a word J between them -/
def xCut (t u : TS) : TS := fun D σ H => ∃ J : L2.St → Hp → Prop, t { D with nx := J } σ H ∧ ∀ σ' H', J σ' H' → u D σ' H'
theorem xss_cut {X : Cx} {st : Stmt} {sts : List Stmt} {t u : TS} (h1 : PS X st t) (h2 : PSs X sts u) : PSs X (st :: sts) (xCut t u) := by
  refine ⟨fun pins s0 σ H D I h => ?_⟩
  obtain ⟨J, hj, hu⟩ := h
  refine wpAny_execs_cons (thn (h1.run pins s0 σ H { D with nx := J } I hj) fun fl s2 q => ?_)
  cases fl with
  | next =>
    obtain ⟨σ2, H2, I2, q2⟩ := q
    exact h2.run pins s2 σ2 H2 D I2 (hu σ2 H2 q2)
  | _ => exact q
section
variable {K : PySem.W.Frag} {a : Addr} {xs : List V} {σ : L2.St}
/-- [e for x in xs], by the turn -/
theorem lc_at {te : TE} {vs : List Nat} {i : Nat} {H1 : Hp} {L : Addr} {Qd : Hp → Prop} (Pv : Nat → Hp → Prop) (h0 : Pv 0 (upd H1 L (.lst []))) (hl : ∀ k H, Pv k H → SqL K H a xs)
    (hw : ∀ x, wipe ((wipe σ vs).set i (some x)) vs = wipe σ vs)
    (hs : ∀ k x H, xs[k]? = some x → Pv k H → te ((wipe σ vs).set i (some x)) H fun y H4 => ∃ acc, H4 L = some (.lst acc) ∧ acc.length < sizeLine ∧ Pv (k + 1) (upd H4 L (.lst (acc ++ [y])))) (hd : ∀ H, Pv xs.length H → Qd H) :
    ∃ W : Nat → Nat → Hp → Prop, (∃ m, W 0 m (upd H1 L (.lst []))) ∧ ∀ k m H, W k m H →
      ((Itl K a).stop k H ∧ Qd H) ∨ ((Itl K a).go k H ∧ ∃ Nx : Hp → Prop, (∀ H', Nx H' → ∃ m', m' < m ∧ W (k + 1) m' H') ∧ ∀ x H', (Itl K a).yld k H x H' → gName i x (wipe σ vs) H' fun σ2 H2 => wipe σ2 vs = wipe σ vs ∧ tYes σ2 H2 fun b H3 =>
        if b = true then te σ2 H3 fun y H4 => ∃ acc, H4 L = some (.lst acc) ∧ acc.length < sizeLine ∧ Nx (upd H4 L (.lst (acc ++ [y]))) else Nx H3) :=
  lc_list Pv h0 (fun k H _ p => hl _ H p) (fun k x H hx p => ⟨hw x, hs _ x H hx p⟩) hd
end
theorem take_snoc {α : Type} {xs : List α} {i : Nat} {x : α} (h : xs[i]? = some x) : xs.take (i + 1) = xs.take i ++ [x] := (take_pre h).2
theorem ff {A : Prop} (h : false = true) : A := nomatch h
theorem tt {A : Prop} (h : true = false) : A := nomatch h
/-! ### the same with the written part K said (within a comprehension the reading must not name its context) -/
section
variable {X : Cx} (K : PySem.W.Frag) {a b e o : Expr} {es : List Expr} {ta tb te to : TE} {t : TA} {pos : Pos} {tg : Expr}
theorem ix_k (h : X.K = K := by rfl) : IxR X (yIx K) := h ▸ ix_y
theorem cr_lenK (h : X.K = K := by rfl) : CallR X (.builtin "len") (yLen K) := h ▸ cr_len
theorem op_eqK (hu : X.A.units + 64 < cLine) (h : X.K = K := by rfl) : OpR X (compareOp .Eq) (yEq K) := h ▸ op_eqY hu
theorem op_neK (hu : X.A.units + 64 < cLine) (h : X.K = K := by rfl) : OpR X (compareOp .NotEq) (yNe K) := h ▸ op_neY hu
theorem xt_truK (ha : PE X a ta) (h : X.K = K := by rfl) (he : ∀ whole, isTrue a X.env whole = (do let v ← whole; standAt a.pos; holding [v] (truthy v)) := by intro _; rfl) : PT X a (xTru K ta) := h ▸ xt_tru ha he
theorem call_isK (h : X.K = K := by rfl) : CallR X (.builtin "isinstance") (rIsi K) := h ▸ call_isi
def yList (K : PySem.W.Frag) : List V → Hp → VK → Prop := fun xs H Q => ∃ p ys, xs = [.ref p] ∧ (SqL K H p ys ∨ SqT K H p ys) ∧ ∀ l, H l = none → Q (.ref l) (upd H l (.lst ys))
theorem call_listK (h : X.K = K := by rfl) : CallR X (.type "list") (yList K) := h ▸ call_list_of
def yTup (K : PySem.W.Frag) : List V → Hp → VK → Prop := fun xs H Q => ∃ p ys, xs = [.ref p] ∧ ((SqL K H p ys ∧ ∀ l, H l = none → Q (.ref l) (upd H l (.tup ys))) ∨ (SqT K H p ys ∧ Q (.ref p) H))
theorem call_tupleK (h : X.K = K := by rfl) : CallR X (.type "tuple") (yTup K) := h ▸ call_tuple_of
theorem cr_sumK (hc : X.calm = true) (h : X.K = K := by rfl) : CallR X (.builtin "sum") (rSum K) := h ▸ cr_sum hc
theorem sl_listK (h : X.K = K := by rfl) : SlR X (rSlL K) := h ▸ sl_list
theorem pi_listK (ha : PE X a ta) (h : X.K = K := by rfl) : PI X tg a (iList K ta) := h ▸ pi_list ha
theorem pi_tupK (ha : PE X a ta) (h : X.K = K := by rfl) : PI X tg a (iTup K ta) := h ▸ pi_tup ha
theorem pe_bmK {T id : String} {name : Str} {apos cpos : Pos} {r : V → List V → Hp → VK → Prop} (pa : PlainAttrs T) (slot : Slot T name id) (hty : typeOf (.builtin id) = pure (.type "method_descriptor")) (hm : MtR X id r) (ho : PE X o to) (ha : PA X (e :: es) t) (hK : X.K = K := by rfl)
    (hbase : attributeBase o name X.env (eval o X.env) = eval o X.env := by rfl)
    (hfew : ((backTo cpos (starEach (e :: es) X.env)).all (fun x => !x.1) && (backToKw cpos (keywordEach [] X.env)).all (fun x => x.1.isSome)
      && decide ((e :: es).length + ([] : List Keyword).length + (if ([] : List Keyword).isEmpty then 0 else 1) < 30)) = true := by rfl)
    (hline : (apos.endLine == cpos.line) = true := by rfl) (hs : starEach (e :: es) X.env = (false, eval e X.env) :: starEach es X.env := by rfl) (hplain : (backTo cpos (starEach es X.env)).any (·.1) = false := by rfl) :
    PE X (.Call (.Attribute o name apos) (e :: es) [] cpos) (tBM K T r to t) := hK ▸ pe_bm pa slot hty hm ho ha hbase hfew hline hs hplain
end
section
variable {X : Cx} {a b c o : Expr} {ta tb tc : TE} {pos : Pos}
/-- a op1 b op2 c, b asked once -/
def xChain (r r' : R2) (ta tb tc : TE) : TE := fun σ H Q => ta σ H fun x H1 => tb σ H1 fun y H2 => r x y H2 fun z H3 => match z with
  | .bl k => (k = true → tc σ H3 fun w' H4 => r' y w' H4 Q) ∧ (k = false → Q (.bl false) H3)
  | _ => False
theorem xe_chain {op op' : CmpOp} {r r' : R2} (ho : OpR X (compareOp op) r) (ho' : OpR X (compareOp op') r') (ha : PE X a ta) (hb : PE X b tb) (hc : PE X c tc)
    (hm : lastMarks [op, op'] [b, c] = false := by with_unfolding_all rfl) : PE X (.Compare a [op, op'] [b, c] pos) (xChain r r' ta tb tc) := by
  refine ⟨fun pins s0 σ H Q J h => ?_⟩
  refine Compare_chain (thn (ha.run pins s0 σ H _ J h) fun v s1 ⟨x, H1, J1, r1, q1⟩ => chain_link (thn (hb.run pins s1 σ H1 _ J1 q1) fun u s2 ⟨y, H2, J2, r2, q2⟩ =>
    thn (ho pins s2 σ H2 x y v u _ J2 r1 r2 q2) fun d s3 ⟨z, H3, J3, r3, q3⟩ => ?_)) hm
  cases z with
  | bl k =>
    cases r3
    refine wpAny_truthy_bool ?_
    cases k with
    | false => exact ite_ff ⟨.bl false, H3, J3, rfl, q3.2 rfl⟩
    | true => exact ite_tt (chain_last (thn (hc.run pins s3 σ H3 _ J3 (q3.1 rfl)) fun w' s4 ⟨z', H4, J4, r4, q4⟩ => ho' pins s4 σ H4 y z' u w' Q J4 r2 r4 q4))
  | _ => exact False.elim q3
theorem xt_chain {op op' : CmpOp} {r r' : R2} (ho : OpR X (compareOp op) r) (ho' : OpR X (compareOp op') r') (ha : PE X a ta) (hb : PE X b tb) (hc : PE X c tc)
    (hm : lastMarks [op, op'] [b, c] = false := by with_unfolding_all rfl) : PT X (.Compare a [op, op'] [b, c] pos) (xB (xChain r r' ta tb tc)) := by
  refine ⟨fun pins s0 σ H Q J h => ?_⟩
  refine isTrue_chain (thn (ha.run pins s0 σ H _ J h) fun v s1 ⟨x, H1, J1, r1, q1⟩ => test_link (thn (hb.run pins s1 σ H1 _ J1 q1) fun u s2 ⟨y, H2, J2, r2, q2⟩ =>
    thn (ho pins s2 σ H2 x y v u _ J2 r1 r2 q2) fun d s3 ⟨z, H3, J3, r3, q3⟩ => ?_)) hm
  cases z with
  | bl k =>
    cases r3
    refine wpAny_truthy_bool ?_
    cases k with
    | false => exact ite_ff ⟨H3, J3, q3.2 rfl⟩
    | true =>
      refine ite_tt (test_last (thn (hc.run pins s3 σ H3 _ J3 (q3.1 rfl)) fun w' s4 ⟨z', H4, J4, r4, q4⟩ => thn (ho' pins s4 σ H4 y z' u w' _ J4 r2 r4 q4) fun d' s5 ⟨z2, H5, J5, r5, q5⟩ => ?_))
      cases z2 with
      | bl k2 =>
        cases r5
        exact wpAny_truthy_bool ⟨H5, J5, q5⟩
      | _ => exact False.elim q5
  | _ => exact False.elim q3
/-- while: a word with its measure -/
def xWhile (c : TT) (tb : TS) : TS := fun D σ H => ∃ W : Nat → L2.St → Hp → Prop, (∃ m, W m σ H) ∧ ∀ m σ H, W m σ H → c σ H fun b H1 =>
  (b = true → tb { D with nx := fun σ' H' => ∃ m', m' < m ∧ W m' σ' H', ct := fun σ' H' => ∃ m', m' < m ∧ W m' σ' H', bk := D.nx } σ H1) ∧ (b = false → D.nx σ H1)
theorem xs_while {c : Expr} {body : List Stmt} {tc : TT} {tb : TS} (hp : PassesOwn (model X.prog X.w) X.A X.env X.xe) (hc : PT X c tc) (hb : PSs X body tb) : PS X (.While c body [] pos) (xWhile tc tb) := by
  refine ⟨fun pins s0 σ H D J h => ?_⟩
  obtain ⟨W, ⟨m0, w0⟩, turn⟩ := h
  refine wpAny_While (codeAny_whileLoop (fun n s' => ∃ σ' H', L2.Inv X pins σ' H' s' ∧ W n σ' H') ?_ m0 ⟨σ, H, J, w0⟩)
  rintro n s1 ⟨σ1, H1, J1, w1⟩
  refine wpAny_passesOwn hp (thn (hc.run pins s1 σ1 H1 _ J1 (turn n σ1 H1 w1)) fun k s2 ⟨H2, J2, q2⟩ => ?_)
  cases k with
  | true =>
    rw [if_pos rfl]
    refine wpAny_passesOwn hp (thn (hb.run pins s2 σ1 H2 _ J2 (q2.1 rfl)) fun f s3 q3 => ?_)
    cases f with
    | next =>
      obtain ⟨σ3, H3, J3, m', hm, w3⟩ := q3
      exact ⟨m', hm, σ3, H3, J3, w3⟩
    | cont =>
      obtain ⟨σ3, H3, J3, m', hm, w3⟩ := q3
      exact ⟨m', hm, σ3, H3, J3, w3⟩
    | brk => exact q3
    | ret v => exact q3
  | false =>
    rw [if_neg Bool.false_ne_true]
    exact wpAny_execs_nil ⟨σ1, H2, J2, q2.2 rfl⟩
/-- a comparison by an own method (__le__ ..) of two instances of C -/
def yOwn (C : Addr) (sp : Sp) (E : XK) : R2 := fun x y H Q => ∃ a b dx dy fs gs, x = .ref a ∧ y = .ref b ∧ H a = some (.ins C dx fs) ∧ H b = some (.ins C dy gs) ∧ sp [.ref a, .ref b] H Q E
theorem op_own {CX : CXT} {C f : Addr} {fd : FuncData} {ps : List Str} {sp : Sp} {E : XK} {op : CmpOp} {n : Nat} (hop : compareOp op = richCompare op) (F : FnOk X.prog X.w X.K X.mg X.base CX n f fd ps sp)
    (hs : PySem.W.findIn X.K (.ref C) (cmpInfo op).2.1 = some (some (.ref f))) (hf : PySem.W.isFn X.K (.ref f) = true) (hb : Binds X.K fd ps []) (hx : Passes CX X E) (hr : Room n X.A) : OpR X (compareOp op) (yOwn C sp E) := by
  intro pins s σ H x y u v Q I rx ry h
  obtain ⟨a, b, dx, dy, fs, gs, rfl, rfl, ha, hb', hsp⟩ := h
  cases rx
  cases ry
  rw [hop]
  obtain ⟨mA, J1, _⟩ := ins_get I.hok ha
  obtain ⟨mB, J2, _⟩ := ins_get I.hok hb'
  obtain ⟨od, J1, _⟩ := J1.look
  obtain ⟨od', J2, _⟩ := J2.look
  obtain ⟨m, hF⟩ := I.fr
  refine PySem.W.cmp_K (op := op) (tb := .ref C) hr.units0 hF I.ok.mod.kin J1 J2.type (by simp [PySem.W.notFirst]) hs hf ?_
  have hl := F.len _ _ _ _ hsp
  refine wpAny_mono (run_fn (us := [.ref a, .ref b]) (vs := [.ref a, .ref b]) (dvs := []) F hr hb .nil hx I (.cons rfl (.cons rfl .nil)) hsp) (fun v s' q => ?_) fun _ _ e => e
  obtain ⟨z, H', I', rz, q⟩ := q
  have fin : EP X pins σ Q v s' := ⟨z, H', I', rz, q⟩
  cases v <;> first | exact fin | (cases z <;> first | exact absurd (show _ = _ from rz) (by intro e; cases e) | (obtain ⟨_, e⟩ := rz; cases e))
variable (K : PySem.W.Frag)
theorem pe_fldK {f : Str} (ha : PE X a ta) (hb : attributeBase a f X.env (eval a X.env) = eval a X.env := by rfl) (h : X.K = K := by rfl) : PE X (.Attribute a f pos) (tFld K ta f) := h ▸ pe_fld ha hb
theorem in_seqK (h : X.K = K := by rfl) : OpR X (compareOp .In) (rIn K false) := h ▸ op_in_seq
theorem notin_seqK (h : X.K = K := by rfl) : OpR X (compareOp .NotIn) (rIn K true) := h ▸ op_notIn_seq
theorem mt_countK (h : X.K = K := by rfl) : MtR X "list.count" (rCntI K) := h ▸ mt_lcount
theorem cr_allK (hc : X.calm = true) (h : X.K = K := by rfl) : CallR X (.builtin "all") (rAll K) := h ▸ cr_all hc
theorem cr_anyK (hc : X.calm = true) (h : X.K = K := by rfl) : CallR X (.builtin "any") (rAny K) := h ▸ cr_any hc
end
theorem xe_glob {X : Cx} {x z : Str} {pos : Pos} (hg : Gl X x) (hm : ∃ t, X.mg x = some (.str z t)) (hd : (x == ("__debug__" : Str)) = false := by decide) : PE X (.Name x pos) (tC (.str z)) := by
  obtain ⟨t, hm⟩ := hm
  exact pe_glob hg hm ⟨_, rfl⟩ hd
theorem xe_globI {X : Cx} {x : Str} {z : Int} {pos : Pos} (hg : Gl X x) (hm : ∃ t, X.mg x = some (.int z t)) (hd : (x == ("__debug__" : Str)) = false := by decide) : PE X (.Name x pos) (tC (.int z)) := by
  obtain ⟨t, hm⟩ := hm
  exact pe_glob hg hm ⟨_, rfl⟩ hd
theorem prd_unsnoc {α β : Type} {F : α → β → Prop} {x : α} : ∀ {xs : List α} {ys : List β}, Paired F (xs ++ [x]) ys → ∃ ys' y, ys = ys' ++ [y] ∧ Paired F xs ys' ∧ F x y
  | [], _, .cons r .nil => ⟨[], _, rfl, .nil, r⟩
  | _ :: xs, _, .cons (b := b) r t => by
    obtain ⟨ys', y, rfl, h1, h2⟩ := prd_unsnoc (xs := xs) t
    exact ⟨b :: ys', y, rfl, .cons r h1, h2⟩
theorem nil_or_snoc {α : Type} (xs : List α) : xs = [] ∨ ∃ ys y, xs = ys ++ [y] := by
  rcases List.eq_nil_or_concat xs with h | ⟨ys, y, h⟩
  · exact .inl h
  · exact .inr ⟨ys, y, by simpa using h⟩
theorem pg_tupK {X : Cx} (K : PySem.W.Frag) (n : Nat) {es : List Expr} {k : Nat} {pos : Pos} {t : TGs} (h : PGs X es t) (hc : X.calm = true := by rfl) (hK : X.K = K := by rfl)
    (hn : (assignEach es X.env).length = n := by rfl) (hst : (assignEach es X.env).findIdx? (·.1) = none := by rfl) : PG X (.Tuple es k pos) (gTup K n t) := hK ▸ pg_tup hc h hn hst
theorem perm_erase {α : Type} : ∀ {xs : List α} {i : Nat} {x : α}, xs[i]? = some x → (x :: xs.eraseIdx i).Perm xs
  | [], _, _, h => by simp at h
  | y :: r, 0, x, h => by
    simp at h
    subst h
    exact List.Perm.refl _
  | y :: r, i + 1, x, h => by
    rw [List.getElem?_cons_succ] at h
    exact (List.Perm.swap _ _ _).trans (List.Perm.cons _ (perm_erase h))
theorem Sep.new2 {G H : Hp} {M : List (Addr × HO)} {x dx : Addr} {o u : HO} (S : Sep G M H) (h1 : H x = Option.none) (h2 : H dx = Option.none) (ne : dx ≠ x) : Sep G ((x, o) :: (dx, u) :: M) (upd (upd H dx u) x o) :=
  (S.new h2).new (by rw [upd_ne (Ne.symm ne)]; exact h1)
end XL
set_option Elab.async false
set_option linter.all false
set_option maxRecDepth 100000
set_option maxHeartbeats 4000000
/-! XIter: enumerate of a tuple. -/
namespace XL
open PySem PySem.Spec PyProof.Rows L2
theorem meets_enum1 {v : Value} {o : Obj} {Hq : Heap → Prop} (B : Begins v o Hq) :
    Meets (Builtin.«enumerate.__new__» ⟨[.type "enumerate", v], []⟩) (fun _ R s => Hq s.heap ∧
      R (.ok (.ret (.ref (s.heap.push o).objs.size))) { s with heap := (s.heap.push o).push { cls := .type "enumerate", data := .fields #[.none, .bool false, .ref s.heap.objs.size, rawInt 0, .none, .none] } }) :=
  .of_wp fun prog w A R s z => by
    obtain ⟨hp, g, d, tk, os⟩ := s
    obtain ⟨z1, z2⟩ := z
    have hsub := sub_enumerate
    have begin1 : ∀ {A' : Around} {E : Value → Shared → Prop} {Q : Value → Shared → Prop}, Q (.ref hp.objs.size) ⟨hp.push o, g, d, tk, os⟩ → wpAny (model prog w) A' (pyIter v) Q E ⟨hp, g, d, tk, os⟩ := fun q => B.iter prog w _ _ ⟨hp, g, d, tk, os⟩ _ z1 q
    wp_walk using begin1
    refine wpAny_stack_any fun st => wpAny_pure ?_
    split
    · rename_i c _ _ _ _ _
      cases (c == Value.type "enumerate") <;> (wp_walk using begin1; exact ⟨_, rfl, z2⟩)
    · wp_walk using begin1
      exact ⟨_, rfl, z2⟩
theorem call_enum1 {prog : Program} {w : World} {A : Around} {E : Value → Shared → Prop} {s : Shared} {v : Value} {o : Obj} {Hq : Heap → Prop} {Q : Value → Shared → Prop} (B : Begins v o Hq) (h1 : Hq s.heap)
    (k : ∀ h', IsEnum h' (s.heap.objs.size + 1) s.heap.objs.size 0 .none → h'.get? s.heap.objs.size = some o → (∀ b o, s.heap.get? b = some o → h'.get? b = some o) → Q (.ref (s.heap.objs.size + 1)) { s with heap := h' }) :
    wpAny (model prog w) A (call (.type "enumerate") [v]) Q E s := by
  refine callType_new F.called_enumerate (by decide) (F.typeCall_enumerate_1 _) (F.newCall_enumerate_1 _) (fun ob => F.args_object_init_2 ob _) F.entry_enumerate_new (meets_enum1 B) ⟨h1, ?_⟩
  have hz : (s.heap.push o).objs.size = s.heap.objs.size + 1 := Heap.size_push ..
  show _ ∧ _
  rw [hz]
  have he : IsEnum ((s.heap.push o).push { cls := .type "enumerate", data := .fields #[.none, .bool false, .ref s.heap.objs.size, rawInt 0, .none, .none] }) (s.heap.objs.size + 1) s.heap.objs.size 0 .none := by
    have z := Heap.get?_push_size (s.heap.push o) (o := { cls := .type "enumerate", data := .fields #[.none, .bool false, .ref s.heap.objs.size, rawInt 0, .none, .none] }) rfl
    rw [hz] at z
    exact z
  exact ⟨⟨_, he, rfl⟩, k _ he (Heap.get?_push_of_some _ (Heap.get?_push_size _ B.free)) fun b o x => Heap.get?_push_of_some _ (Heap.get?_push_of_some _ x)⟩
/-- the tuple at a, each item in a new pair -/
def IteT (K : PySem.W.Frag) (a : Addr) : It :=
  ⟨fun i H => ∃ (xs : List V) (x : V), SqT K H a xs ∧ xs[i]? = some x, fun i H v H' => ∃ T x, v = .ref T ∧ H T = none ∧ H' = upd H T (.tup [.int (i : Nat), x]) ∧ ∀ xs, SqT K H a xs → xs[i]? = some x, fun i H => ∃ xs : List V, SqT K H a xs ∧ xs.length ≤ i⟩
theorem turn_enumT {P : Program} {w : World} {K : PySem.W.Frag} {elts : List Expr} {kk : Nat} {tpos : Pos} (a e it : Addr) (hai : a ≠ it) (hae : a ≠ e) :
    Turn P w K (.Tuple elts kk tpos) (IteT K a) [e, it] e (fun i h => (∃ old, IsEnum h e it ((i : Nat) : Int) old) ∧ h.IsTupleIter it a i ∧ e ≠ it) where
  mem := by simp
  obj := fun i h st b hb => by
    obtain ⟨⟨old, he⟩, ⟨o, ho, hc, hd⟩, _⟩ := st
    have q : b = e ∨ b = it := by simpa using hb
    rcases q with z | z
    · rw [z]; exact ⟨_, he, fun v q => nomatch q⟩
    · rw [z]; exact ⟨o, ho, fun v q => by rw [hd] at q; cases q⟩
  keep := fun i h h' st k => let ⟨⟨old, he⟩, hi, hne⟩ := st; ⟨⟨old, k e (by simp) _ he⟩, hi.at fun o q => k it (by simp) o q, hne⟩
  item := by
    intro X hP hw hK hc i pins s σ H E I hf st hg
    subst hP hw hK
    obtain ⟨⟨old, he⟩, hit, hne⟩ := st
    obtain ⟨xs, x, hq, hx⟩ := hg
    obtain ⟨its, rv, p, hz⟩ := I.tuple hq
    obtain ⟨u, hu, ru⟩ := rv.get hx
    have hel : e < s.heap.objs.size := Heap.lt_size he
    have hil : it < s.heap.objs.size := by obtain ⟨_, q, _⟩ := hit; exact Heap.lt_size q
    have hlen : i < its.toArray.size := by
      have z := (List.getElem?_eq_some_iff.mp hu).1
      simpa using z
    refine wpAny_pyNext_enum_itemC (c := ((i : Nat) : Int)) (Draws.tuple (A := X.A.in1) (I.ok.hd hc) it a hai its.toArray) he ⟨hit, p⟩ hlen hne (by simp; exact ⟨hne, fun z => hae z.symm⟩) fun y h' tk hy ho st' hT hsz hk => ?_
    have ey : y = u := by
      have z : its[i]? = some y := by simpa using hy
      rw [hu] at z
      exact (Option.some.inj z).symm
    subst ey
    refine ⟨_, rfl, wpAny_letOwnedTupleGo_enum (s := { s with heap := h', toks := tk + 1 }) ho fun h'' he' sb => ?_⟩
    have hT2 : h''.get? s.heap.objs.size = some { cls := .type "tuple", data := .seq #[.int i tk, y] } := (sb.2 _ (Nat.ne_of_gt hel)).trans hT
    have new : ObjOk X.prog X.w (upd H s.heap.objs.size (.tup [.int (i : Nat), x])) h'' s.heap.objs.size (.tup [.int (i : Nat), x]) :=
      ⟨by show 2 ≤ sizeLine; decide, [.int i tk, y], .cons ⟨_, rfl⟩ (.cons ru .nil), ⟨_, hT2, rfl, _, rfl⟩⟩
    have I1 : L2.Inv X pins σ (upd H s.heap.objs.size (.tup [.int (i : Nat), x])) { s with heap := h'', toks := tk + 1 } :=
      I.turnedNew (ch := [e, it]) (fun b ob hb q => (sb.2 b (fun z => hb (by simp [z]))).trans (hk b ob (fun z => hb (by simp [z])) (fun z => hb (by simp [z])) q)) hf (Nat.le_refl _) new
    refine ⟨.ref s.heap.objs.size, _, I1, rfl, ⟨_, x, rfl, I.hok.fresh (Nat.le_refl _), rfl, fun ys hy => by rw [I.tuple_inj hy hq]; exact hx⟩, ⟨⟨y, ?_⟩, st'.1.at fun o q => (sb.2 it (Ne.symm hne)).trans q, hne⟩, fun b hb => ?_⟩
    · have e1 : ((i + 1 : Nat) : Int) = (i : Int) + 1 := by omega
      rw [e1]; exact he'
    · have hb2 : b < s.heap.objs.size := by
        have q : b = e ∨ b = it := by simpa using hb
        rcases q with z | z
        · rw [z]; exact hel
        · rw [z]; exact hil
      rw [upd_ne (Nat.ne_of_lt hb2)]
      exact (hf b hb).1
  done := by
    intro X hP hw hK hc i pins s σ H E I hf st hg
    subst hP hw hK
    obtain ⟨⟨old, he⟩, hit, hne⟩ := st
    obtain ⟨xs, hq, hx⟩ := hg
    obtain ⟨its, rv, p, hz⟩ := I.tuple hq
    obtain ⟨f0, f1, f2, f3, f4, f5⟩ := hf it (by simp)
    have hl := rv.length
    have D := Draws.tuple (prog := X.prog) (w := X.w) (A := X.A.in1) (I.ok.hd hc) it a hai its.toArray
    by_cases hi : i = its.toArray.size
    · subst hi
      exact wpAny_pyNext_enum_endD D he ⟨hit, p⟩ fun h' eb => ⟨rfl, I.turned (t' := s.toks) (fun b o hb q => eb b o hb q) f0 f1 f3 f4 f5⟩
    · have D2 : Draws X.prog X.w X.A.in1 it [it, a] i (fun _ _ => False) (fun j h => (j = i ∨ False) ∧ h.IsTupleIter it a i ∧ h.IsTuple a its.toArray) := {
        live := fun _ _ st => let ⟨o, ho, _⟩ := st.2.1; ⟨o, ho⟩
        frame := fun _ _ _ st hk => ⟨st.1, st.2.1.at fun o e => hk it (by simp) o e, st.2.2.at fun o e => hk a (by simp) o e⟩
        item := fun j s Q E hj st hQ => by
          rcases st.1 with z | z
          · omega
          · exact z.elim
        done := fun s Q E st hE => wpAny_nextOf_tuple_end (I.ok.hd hc) st.2.1 st.2.2 (by
          simp only [List.getElem?_toArray]
          exact List.getElem?_eq_none_iff.mpr (by omega)) hE }
      exact wpAny_pyNext_enum_endD D2 he ⟨.inl rfl, hit, p⟩ fun h' eb => ⟨rfl, I.turned (t' := s.toks) (fun b o hb q => eb b o hb q) f0 f1 f3 f4 f5⟩
  self := fun A i s Q E st h => let ⟨⟨_, he⟩, _⟩ := st; wpAny_pyIter_enum he h
def iEnumT (K : PySem.W.Frag) (ta : TA) : TI := fun σ H R => ta σ H fun vs H1 => ∃ a xs, vs = [.ref a] ∧ SqT K H1 a xs ∧ R (IteT K a) H1
theorem pi_enumT {X : Cx} {e : Expr} {ta : TA} {p pos tpos : Pos} {elts : List Expr} {kk : Nat} (hg : Gl X "enumerate") (hm : X.mg "enumerate" = none) (ha : PA X [e] ta) (hs : starEach [e] X.env = [(false, eval e X.env)] := by rfl) :
    PI X (.Tuple elts kk tpos) (.Call (.Name "enumerate" p) [e] [] pos) (iEnumT X.K ta) := by
  refine ⟨fun pins s σ H R I h => ?_⟩
  refine Call_ (ld_blt I hg hm boot_enumerate (PyProof.Rows.callWith_type1 (thn (ha.run pos pins s σ H _ I h) fun us s1 ⟨vs, H1, I1, r1, q1⟩ => ?_) hs rfl))
  obtain ⟨a, xs, ex, hq, q⟩ := q1
  subst ex
  cases r1 with
  | cons r rr =>
    cases rr
    cases r
    obtain ⟨its, rv, p', hz⟩ := I1.tuple hq
    have hal : a < s1.heap.objs.size := by obtain ⟨o, ho, _⟩ := p'; exact Heap.lt_size ho
    refine call_enum1 (begins_tuple a its.toArray) p' fun h' he hit hk => wpAny_pyIter_enum he ?_
    have I2 : L2.Inv X pins σ H1 { s1 with heap := h' } := I1.kept (t' := s1.toks) hk
    refine ⟨s1.heap.objs.size + 1, [s1.heap.objs.size + 1, s1.heap.objs.size], _, _, H1, rfl, I2, turn_enumT a (s1.heap.objs.size + 1) s1.heap.objs.size (Nat.ne_of_lt hal) (Nat.ne_of_lt (Nat.lt_succ_of_lt hal)), ⟨⟨.none, he⟩, ⟨_, hit, rfl, rfl⟩, Nat.succ_ne_self _⟩, fun b hb => ?_, q⟩
    have q' : b = s1.heap.objs.size + 1 ∨ b = s1.heap.objs.size := by simpa using hb
    have hle : s1.heap.objs.size ≤ b := by
      rcases q' with z | z
      · rw [z]; exact Nat.le_add_right _ _
      · rw [z]; exact Nat.le_refl _
    exact I1.fpOk hle (I1.hok.fresh hle)
theorem for_enumT {K : PySem.W.Frag} {a : Addr} {xs : List V} {tb : TS} {D : Ends} {σ : L2.St} {H : Hp} {i j : Nat} (Pv : Nat → L2.St → Hp → Prop) (h0 : Pv 0 σ H) (hl : ∀ k σ H, Pv k σ H → SqT K H a xs)
    (hs : ∀ k x σ H T, xs[k]? = some x → Pv k σ H → H T = none →
      tb { D with nx := Pv (k + 1), ct := Pv (k + 1), bk := D.nx } ((σ.set i (some (.int (k : Nat)))).set j (some x)) (upd H T (.tup [.int (k : Nat), x]))) (hd : ∀ σ H, Pv xs.length σ H → D.nx σ H) :
    ∃ W : Nat → Nat → L2.St → Hp → Prop, (∃ m, W 0 m σ H) ∧ ∀ k m σ H, W k m σ H →
      ((IteT K a).stop k H ∧ D.nx σ H) ∨ ((IteT K a).go k H ∧ ∃ N : L2.St → Hp → Prop, (∀ σ' H', N σ' H' → ∃ m', m' < m ∧ W (k + 1) m' σ' H') ∧ ∀ x H', (IteT K a).yld k H x H' →
        (gTup K 2 (gCons (gName i) (gCons (gName j) gNil))) x σ H' fun σ2 H2 => tb { D with nx := N, ct := N, bk := D.nx } σ2 H2) := by
  refine ⟨fun k m σ H => m = xs.length - k ∧ k ≤ xs.length ∧ Pv k σ H, ⟨xs.length, by simp, Nat.zero_le _, h0⟩, ?_⟩
  rintro k m σ H ⟨rfl, hk, p⟩
  have q := hl _ σ H p
  by_cases hlt : k < xs.length
  · refine .inr ⟨⟨xs, xs[k], q, by simp [hlt]⟩, Pv (k + 1), fun σ' H' p' => ⟨xs.length - (k + 1), by omega, rfl, hlt, p'⟩, fun v H' y => ?_⟩
    obtain ⟨T, x, rfl, nT, rfl, hx⟩ := y
    refine ⟨T, _, rfl, SqT.of upd_same, rfl, _, _, rfl, _, _, rfl, rfl, ?_⟩
    exact hs k x σ H T (hx xs q) p nT
  · have e : k = xs.length := by omega
    subst e
    exact .inl ⟨⟨xs, q, Nat.le_refl _⟩, hd σ H p⟩
end XL
set_option Elab.async false
set_option linter.all false
set_option maxRecDepth 100000
set_option maxHeartbeats 4000000
/-! XDeep: x in t, t.index(x), items data of any depth, t a list or a tuple. -/
namespace XL
open PySem PySem.Spec PyProof.Rows L2
section
variable {X : Cx} (K : PySem.W.Frag)
def rInX (K : PySem.W.Frag) (neg : Bool) : R2 := fun x y H Q => ∃ d ds, Dp K H x d ∧ (Dp K H y (.list ds) ∨ Dp K H y (.tuple ds)) ∧ SeqAt.shaped d = true ∧ PyData.canLayAll0 ds = true ∧ Q (.bl (if neg then !(ds.any fun z => PyData.eqv z d) else ds.any fun z => PyData.eqv z d)) H
theorem in_deepK (hu : X.A.units + 65 < cLine) (h : X.K = K := by rfl) : OpR X (compareOp .In) (rInX K false) := by
  subst h
  intro pins s σ H x y v u Q I rx ry h
  obtain ⟨d, ds, hd, he, sd, se, q⟩ := h
  obtain ⟨as, r1⟩ := Dp.reads I d x v hd rx
  rcases he with he | he
  · obtain ⟨bs, r2⟩ := Dp.reads I (.list ds) y u he ry
    exact SeqAt.in_list_reads r2 r1 se (SeqAt.canLay_of_shaped sd) (room_in_shaped sd hu) ⟨.bl _, H, I, rfl, q⟩
  · obtain ⟨bs, r2⟩ := Dp.reads I (.tuple ds) y u he ry
    exact SeqAt.in_tuple_reads r2 r1 se (SeqAt.canLay_of_shaped sd) (room_in_shaped sd hu) ⟨.bl _, H, I, rfl, q⟩
theorem notin_deepK (hu : X.A.units + 65 < cLine) (h : X.K = K := by rfl) : OpR X (compareOp .NotIn) (rInX K true) := by
  subst h
  intro pins s σ H x y v u Q I rx ry h
  obtain ⟨d, ds, hd, he, sd, se, q⟩ := h
  obtain ⟨as, r1⟩ := Dp.reads I d x v hd rx
  rcases he with he | he
  · obtain ⟨bs, r2⟩ := Dp.reads I (.list ds) y u he ry
    exact SeqAt.notIn_list_reads r2 r1 se (SeqAt.canLay_of_shaped sd) (room_in_shaped sd hu) ⟨.bl _, H, I, rfl, q⟩
  · obtain ⟨bs, r2⟩ := Dp.reads I (.tuple ds) y u he ry
    exact SeqAt.notIn_tuple_reads r2 r1 se (SeqAt.canLay_of_shaped sd) (room_in_shaped sd hu) ⟨.bl _, H, I, rfl, q⟩
/-- t.index(x), t a tuple: the first place of an equal one -/
def rIndexT (K : PySem.W.Frag) : V → List V → Hp → VK → Prop := fun x xs H Q => ∃ (a : Addr) (y : V) (d : PyData) (ds : List PyData) (j : Nat) (z : PyData), x = V.ref a ∧ xs = [y] ∧ Dp K H (V.ref a) (.tuple ds) ∧ Dp K H y d ∧
  PyData.canLayAll0 ds = true ∧ SeqAt.shaped d = true ∧ ds[j]? = some z ∧ PyData.eqv z d = true ∧ (∀ (m : Nat) (z' : PyData), m < j → ds[m]? = some z' → PyData.eqv z' d = false) ∧ Q (.int (j : Nat)) H
theorem mt_tindexK (hu : X.A.units + 65 < cLine) (h : X.K = K := by rfl) : MtR X "tuple.index" (rIndexT K) := by
  subst h
  intro pins s σ H x xs v us Q I rx rxs h
  obtain ⟨a, y, d, ds, j, z, rfl, rfl, hl, hy, hxs, sd, hz, hzj, hno, q⟩ := h
  cases rx
  cases rxs with
  | cons ry rt =>
    rename_i uy ut
    cases rt
    obtain ⟨bs, r1⟩ := Dp.reads I d y uy hy ry
    have hroom : X.A.units + 1 + min (PyData.depthAll ds) d.depth < cLine := room_in_shaped sd hu
    cases hl with
    | tup hs ha =>
      obtain ⟨its, rv, ⟨⟨cls, dd, data, sls⟩, ho, hc, n, hdt⟩, hlen⟩ := I.tuple hs
      simp only at hc hdt
      subst hc hdt
      obtain ⟨as, h4⟩ := Dp.readsAll I ds _ its ha rv
      have hn : its.length = ds.length := SeqAt.ReadsAll.length ds its as h4
      have hmap : its.map (SeqAt.readOf s.heap) = ds := SeqAt.readsAll_map ds its as hxs h4
      have hvl := rv.length
      obtain ⟨hjd, _⟩ := List.getElem?_eq_some_iff.mp hz
      have hjl : j < its.length := by omega
      have hj : j < its.toArray.size := by simpa using hjl
      have at_ : ∀ (m : Nat) (hm : m < its.toArray.size) (z' : PyData), ds[m]? = some z' → SeqAt.readOf s.heap its.toArray[m] = z' := by
        intro m hm z' hz'
        have hml : m < its.length := by simpa using hm
        rw [← hmap, List.getElem?_map, List.getElem?_eq_getElem hml] at hz'
        have e1 : SeqAt.readOf s.heap its[m] = z' := Option.some.inj (show some (SeqAt.readOf s.heap its[m]) = some z' from hz')
        simpa using e1
      refine call_meets PySem.F.slot_tuple_index ⟨_, ho, rfl⟩ PySem.F.entry_tuple_index (PySem.F.args_tuple_index_2 _ _)
        (TI.tuple_indexAt a its.toArray n dd sls uy (fun u => PyData.eqv (SeqAt.readOf s.heap u) d) j hj ?_ ?_) ⟨ho, SeqAt.items_eqAt (vs := its.toArray) (show ReadsAll s.heap its.toArray.toList ds as from h4) r1 hxs (SeqAt.canLay_of_shaped sd) hroom, ?_⟩
      · show PyData.eqv (SeqAt.readOf s.heap its.toArray[j]) d = true
        rw [at_ j hj z hz]
        exact hzj
      · intro m hm hmj
        have hmd : m < ds.length := by omega
        have hz' : ds[m]? = some ds[m] := List.getElem?_eq_getElem hmd
        show PyData.eqv (SeqAt.readOf s.heap its.toArray[m]) d = false
        rw [at_ m hm _ hz']
        exact hno m _ hmj hz'
      · exact ⟨.int (j : Nat), H, I.tok _, ⟨_, rfl⟩, q⟩
end
theorem u65 {k : Nat} {A : Around} (r : Room k A) : A.units + 65 < cLine := by have := r.un; omega
/-- xs[::-1] of a list -/
def tRev (K : PySem.W.Frag) (te : TE) : TE := fun σ H Q => te σ H fun x H1 => ∃ a xs, x = .ref a ∧ SqL K H1 a xs ∧ ∀ p, H1 p = none → Q (.ref p) (upd H1 p (.lst xs.reverse))
theorem pe_rev {X : Cx} {e m : Expr} {te : TE} {p2 pos : Pos} (he : PE X e te) (hm : PE X m (tC (.int (-1)))) : PE X (.Subscript e (.Slice none none (some m) p2) pos) (tRev X.K te) := by
  refine ⟨fun pins s σ H Q I h => ?_⟩
  refine Subscript_ (thn (he.run pins s σ H _ I h) fun v s1 ⟨x, H1, I1, r1, q1⟩ => ?_)
  refine wpAny_Slice (wpAny_evalPart_none (wpAny_evalPart_none (wpAny_evalPart_some (thn (hm.run pins s1 σ H1 (fun y H2 => y = .int (-1) ∧ H2 = H1) I1 ⟨rfl, rfl⟩) fun vm s3 ⟨y, H3, I3, r3, ey, eH⟩ => ?_))))
  subst ey eH
  obtain ⟨t, rfl⟩ := r3
  obtain ⟨a, xs, rfl, hx, q⟩ := q1
  cases r1
  have I4 : L2.Inv X pins σ H3 { s3 with heap := s3.heap.push { cls := .type "slice", data := .fields #[.none, .none, .int (-1) t] } } := I3.kept (t' := s3.toks) fun b ob q => Heap.get?_push_of_some _ q
  obtain ⟨its, r, ht, hz⟩ := I4.list hx
  have hlen := r.length
  show wpAny (model X.prog X.w) X.A (subscriptTail e (.Slice none none (some m) p2) (.ref a) (.ref s3.heap.objs.size)) (EP X pins σ Q) X.xe { s3 with heap := s3.heap.push { cls := .type "slice", data := .fields #[.none, .none, .int (-1) t] } }
  refine tail_any (ops := [.ref a, .ref s3.heap.objs.size]) ht.isList.typeIs slot_list_getitem.lookup ?_ (by with_unfolding_all rfl)
  refine wpAny_getItem_list_slice ht.isList (Heap.IsSliceOf.new ..) .none .none (.int (-1) t) (by decide) ?_ (by rw [List.size_toArray] <;> omega)
  rw [PySem.W.krv_pick]
  refine ⟨.ref _, _, I4.laid (t' := s3.toks) (o := .lst xs.reverse) (fun b ob q => Heap.get?_push_of_some _ q) (Nat.le_refl _) ?_, rfl, q _ (I4.hok.fresh (Nat.le_refl _))⟩
  exact ⟨by rw [List.length_reverse]; exact hz, _, 0, r.reverse, Heap.get?_push_size _ rfl⟩
theorem pe_revK {X : Cx} {e m : Expr} {te : TE} {p2 pos : Pos} (K : PySem.W.Frag) (he : PE X e te) (hm : PE X m (tC (.int (-1)))) (h : X.K = K := by rfl) : PE X (.Subscript e (.Slice none none (some m) p2) pos) (tRev K te) := h ▸ pe_rev he hm
theorem tst {b : Bool} {A B : Prop} (h1 : b = true → A) (h0 : b = false → B) : if b = true then A else B := by
  cases b
  · exact h0 rfl
  · exact h1 rfl
theorem sl_tupAK {X : Cx} (K : PySem.W.Frag) (h : X.K = K := by rfl) : SlR X (rSlA K) := h ▸ sl_tupA
/-! ### tuples whose object has no dict (so that their methods are reached) -/
def TupF (G : Hp) (a : Addr) (xs : List V) : Prop := ∃ o : Obj, o.dict = none ∧ G a = some (.frz o (.tup xs))
def Tu (G : Hp) (a : Addr) (xs : List V) : Prop := G a = some (.tup xs) ∨ TupF G a xs
theorem TupF.same {G G' : Hp} {a : Addr} {xs : List V} (e : Same G G') (h : TupF G a xs) : TupF G' a xs := let ⟨o, h1, h2⟩ := h; ⟨o, h1, e _ _ h2⟩
theorem Tu.same {G G' : Hp} {a : Addr} {xs : List V} (e : Same G G') (h : Tu G a xs) : Tu G' a xs := by
  rcases h with h | h
  · exact .inl (e _ _ h)
  · exact .inr (h.same e)
theorem Tu.sq {K : PySem.W.Frag} {H : Hp} {a : Addr} {xs : List V} (h : Tu H a xs) : SqT K H a xs := by
  rcases h with h | ⟨o, _, h⟩
  · exact .inl (.inl h)
  · exact .inl (.inr ⟨o, h⟩)
theorem Tu.ty {K : PySem.W.Frag} {H : Hp} {a : Addr} {xs : List V} (h : Tu H a xs) : TyX K H (.ref a) (.type "tuple") := by
  rcases h with h | ⟨o, _, h⟩
  · exact .base (.tup h)
  · exact .fTuple h
theorem TupF.tu {G : Hp} {a : Addr} {xs : List V} (h : TupF G a xs) : Tu G a xs := .inr h
section
variable {X : Cx} (K : PySem.W.Frag)
/-- tuple(xs) -/
def yTupF (K : PySem.W.Frag) : List V → Hp → VK → Prop := fun xs H Q => ∃ p ys, xs = [.ref p] ∧ ((SqL K H p ys ∧ ∀ l o, H l = none → o.dict = none → Q (.ref l) (upd H l (.frz o (.tup ys)))) ∨ (SqT K H p ys ∧ Q (.ref p) H))
theorem call_tupleFK (h : X.K = K := by rfl) : CallR X (.type "tuple") (yTupF K) := by
  subst h
  intro pins s σ H xs us Q I r h
  obtain ⟨p, ys, rfl, h⟩ := h
  obtain ⟨u, rfl, rx⟩ := vals1 r
  cases rx
  rcases h with ⟨hq, q⟩ | ⟨hq, q⟩
  · obtain ⟨its, r', pl, hz⟩ := I.list hq
    have hlen := r'.length
    refine call_tuple_list pl.isList (fun h' kp => ?_) (by simp only [List.size_toArray] <;> omega)
    have I1 : L2.Inv X pins σ H { s with heap := h' } := I.kept (t' := s.toks) kp
    have I2 : L2.Inv X pins σ (upd H h'.objs.size (.frz { cls := .type "tuple", data := .seq its.toArray } (.tup ys))) { s with heap := h'.push { cls := .type "tuple", data := .seq its.toArray } } :=
      I1.laid (t' := s.toks) (fun b o e => Heap.get?_push_of_some _ e) (Nat.le_refl _) (show ObjOk X.prog X.w _ _ _ (.frz { cls := .type "tuple", data := .seq its.toArray } (.tup ys)) from ⟨Heap.get?_push_size _ rfl, hz, its, r', IsTup.new _ _⟩)
    exact ⟨.ref h'.objs.size, _, I2, rfl, q _ _ (I1.hok.fresh (Nat.le_refl _)) rfl⟩
  · obtain ⟨its, r', pl, hz⟩ := I.tuple hq
    exact call_tuple_same pl ⟨.ref p, H, I, rfl, q⟩
/-- t.m(e, ..), t a tuple -/
def tTM (r : V → List V → Hp → VK → Prop) (to : TE) (t : TA) : TE := fun σ H Q => to σ H fun x H1 => (∃ a xs, x = .ref a ∧ TupF H1 a xs) ∧ t σ H1 fun vs H2 => r x vs H2 Q
theorem pe_tm {o e : Expr} {es : List Expr} {to : TE} {t : TA} {id : String} {name : Str} {apos cpos : Pos} {r : V → List V → Hp → VK → Prop} (slot : Slot "tuple" name id) (hty : typeOf (.builtin id) = pure (.type "method_descriptor")) (hm : MtR X id r) (ho : PE X o to) (ha : PA X (e :: es) t)
    (hbase : attributeBase o name X.env (eval o X.env) = eval o X.env := by rfl)
    (hfew : ((backTo cpos (starEach (e :: es) X.env)).all (fun x => !x.1) && (backToKw cpos (keywordEach [] X.env)).all (fun x => x.1.isSome)
      && decide ((e :: es).length + ([] : List Keyword).length + (if ([] : List Keyword).isEmpty then 0 else 1) < 30)) = true := by rfl)
    (hline : (apos.endLine == cpos.line) = true := by rfl) (hs : starEach (e :: es) X.env = (false, eval e X.env) :: starEach es X.env := by rfl) (hplain : (backTo cpos (starEach es X.env)).any (·.1) = false := by rfl) :
    PE X (.Call (.Attribute o name apos) (e :: es) [] cpos) (tTM r to t) := by
  refine ⟨fun pins s σ H Q I h => ?_⟩
  refine wpAny_Call_method_late hbase hfew hline rfl (thn (ho.run pins s σ H _ I h) fun v s1 ⟨x, H1, I1, r1, ty, q1⟩ => ?_)
  obtain ⟨a, xs, rfl, ob, hd, ha'⟩ := ty
  cases r1
  obtain ⟨h1, _, _, _, h2⟩ := I1.hok _ _ ha'
  refine ⟨"tuple", id, PySem.F.plainAttrs_tuple, slot, hty, ⟨ob, h1, ?_⟩, fun b e => ?_, ?_⟩
  · obtain ⟨ob', e1, e2, _⟩ := h2
    rw [h1] at e1
    rw [Option.some.inj e1]
    exact e2
  · cases e
    exact ⟨ob, h1, hd⟩
  have hA := ha.run cpos pins s1 σ H1 _ I1 q1
  rw [hs] at hA ⊢
  refine Calls.callWith_builtin (by show (false || (backTo cpos (starEach es X.env)).any (·.1)) = false; rw [hplain] <;> rfl) (Calls.evalArgs_plain ?_)
  exact thn hA fun us s2 ⟨vs, H2, I2, r2, q2⟩ => hm pins s2 σ H2 (V.ref a) vs (.ref a) us Q I2 rfl r2 q2
end
/-- t[lo:hi]: the whole of it is t itself -/
def rSlF (K : PySem.W.Frag) : V → Option Int → Option Int → Hp → VK → Prop := fun x lo hi H Q => ∃ a xs, x = .ref a ∧ SqT K H a xs ∧
  (HT.sIx xs.length 0 lo = 0 ∧ HT.sIx xs.length xs.length hi = xs.length → Q (.ref a) H) ∧ (¬ (HT.sIx xs.length 0 lo = 0 ∧ HT.sIx xs.length xs.length hi = xs.length) → ∀ p ob, H p = none → ob.dict = none → Q (.ref p) (upd H p (.frz ob (.tup (cutV xs lo hi)))))
theorem sl_tupFK {X : Cx} (K : PySem.W.Frag) (h : X.K = K := by rfl) : SlR X (rSlF K) := by
  subst h
  intro pins s σ H x v vl vu lo hi sl Q I rx hs pl pu h
  obtain ⟨a, xs, rfl, hx, q1, q2⟩ := h
  by_cases hw : HT.sIx xs.length 0 lo = 0 ∧ HT.sIx xs.length xs.length hi = xs.length
  · exact sl_tupA pins s σ H _ v vl vu lo hi sl Q I rx hs pl pu ⟨a, xs, rfl, hx, q1, fun z => absurd hw z⟩
  · cases rx
    obtain ⟨its, r, ht, hz⟩ := I.tuple hx
    have hlen : its.toArray.size = xs.length := by rw [List.size_toArray]; exact r.length.symm
    refine ⟨"tuple", _, PyProof.Rows.slot_tuple_getitem.lookup, ht.typeIs, ?_⟩
    refine HT.getItem_tuple_cut ht hs pl pu (by rw [hlen]; exact hw) ?_ (by rw [hlen]; exact hz)
    rw [hlen]
    refine ⟨.ref s.heap.objs.size, _, I.laid (t' := s.toks) (o := .frz { cls := .type "tuple", data := .seq (List.take (HT.sIx xs.length xs.length hi - HT.sIx xs.length 0 lo) (List.drop (HT.sIx xs.length 0 lo) its.toArray.toList)).toArray } (.tup (cutV xs lo hi))) (fun b ob q => Heap.get?_push_of_some _ q) (Nat.le_refl _) ?_, rfl, q2 hw _ _ (I.hok.fresh (Nat.le_refl _)) ?_⟩
    · exact ⟨Heap.get?_push_size _ rfl, Nat.le_trans (cutV_length xs lo hi) hz, _, (r.drop (HT.sIx xs.length 0 lo)).take (HT.sIx xs.length xs.length hi - HT.sIx xs.length 0 lo), IsTup.new _ _⟩
    · rfl
theorem Sep.sub {G H : Hp} {M M' : List (Addr × HO)} (S : Sep G M H) (h : M'.Sublist M) : Sep G M' H := ⟨S.1, fun p hp => S.2.1 p (h.subset hp), List.Nodup.sublist (h.map _) S.2.2⟩
theorem Sep.rot2 {G H : Hp} {a b c d : Addr × HO} {M : List (Addr × HO)} (S : Sep G (a :: b :: c :: d :: M) H) : Sep G (c :: d :: a :: b :: M) H := S.perm (List.perm_append_comm_assoc [a, b] [c, d] M)
theorem Sep.no3 {G H : Hp} {a b c : Addr × HO} {M : List (Addr × HO)} (S : Sep G (a :: b :: c :: M) H) : Sep G (a :: b :: M) H := S.sub ((List.sublist_cons_self c M).cons₂ b |>.cons₂ a)
/-! ### lists of ints, of pairs of ints, as data -/
def prd (p : Int × Int) : PyData := .tuple [.int p.1, .int p.2]
theorem prd_can (p : Int × Int) : (prd p).canLay0 = true := by simp [prd, PyData.canLay0, PyData.canLayAll0]
theorem prd_shaped (p : Int × Int) : SeqAt.shaped (prd p) = true := by
  unfold SeqAt.shaped
  rw [prd_can]
  simp [prd, PyData.depth, PyData.depthAll]
theorem prds_can : ∀ ps : List (Int × Int), PyData.canLayAll0 (ps.map prd) = true
  | [] => by simp [PyData.canLayAll0]
  | p :: r => by simp [PyData.canLayAll0, prd_can p, prds_can r]
theorem ints_can : ∀ ns : List Int, PyData.canLayAll0 (ns.map PyData.int) = true
  | [] => by simp [PyData.canLayAll0]
  | n :: r => by simp [PyData.canLayAll0, PyData.canLay0, ints_can r]
theorem prd_eqv (p q : Int × Int) : PyData.eqv (prd p) (prd q) = decide (p = q) := by
  obtain ⟨a, b⟩ := p
  obtain ⟨c, d⟩ := q
  simp only [prd, PyData.eqv, PyData.eqvAll, Bool.and_true]
  by_cases h1 : a = c <;> by_cases h2 : b = d <;> simp [h1, h2]
theorem int_shaped (n : Int) : SeqAt.shaped (.int n) = true := by simp [SeqAt.shaped, PyData.canLay0, PyData.depth]
theorem ints_dp {K : PySem.W.Frag} {H : Hp} : ∀ ns : List Int, DpAll K H (ns.map V.int) (ns.map PyData.int)
  | [] => .nil
  | n :: r => .cons (.int n) (ints_dp r)
theorem any_ints (n : Int) (ns : List Int) : ((ns.map PyData.int).any fun z => PyData.eqv z (.int n)) = decide (n ∈ ns) := by
  induction ns with
  | nil => rfl
  | cons m r ih =>
    rw [List.map_cons, List.any_cons, ih]
    show ((m == n) || decide (n ∈ r)) = decide (n ∈ m :: r)
    by_cases e : n = m
    · subst e; simp
    · have e2 : ¬ m = n := fun q => e q.symm
      simp [e, e2]
theorem any_prds (p : Int × Int) (ps : List (Int × Int)) : ((ps.map prd).any fun z => PyData.eqv z (prd p)) = decide (p ∈ ps) := by
  induction ps with
  | nil => rfl
  | cons q r ih =>
    rw [List.map_cons, List.any_cons, ih, prd_eqv]
    by_cases e : p = q
    · subst e; simp
    · have e2 : ¬ q = p := fun h => e h.symm
      simp [e, e2]
end XL
set_option Elab.async false
set_option linter.all false
set_option maxRecDepth 100000
set_option maxHeartbeats 4000000
/-! XOwn: o[i], o[i] = v by own methods. -/
namespace XL
open PySem PySem.Spec PyProof.Rows L2
section
variable {X : Cx} {CX : CXT} {C f : Addr} {fd : FuncData} {ps : List Str} {sp : Sp} {E : XK} {n : Nat} {o i : Expr} {to ti : TE} {pos : Pos}
def yIxO (C : Addr) (sp : Sp) (E : XK) : R2 := fun x y H Q => ∃ a dx fs, x = .ref a ∧ H a = some (.ins C dx fs) ∧ sp [.ref a, y] H Q E
theorem pe_ixO (ho : PE X o to) (hi : PE X i ti) (F : FnOk X.prog X.w X.K X.mg X.base CX n f fd ps sp) (hs : PySem.W.findIn X.K (.ref C) "__getitem__" = some (some (.ref f))) (hf : PySem.W.fnIn X.K f = true) (hfn : PySem.W.isFn X.K (.ref f) = true)
    (hb : Binds X.K fd ps []) (hx : Passes CX X E) (hr : Room (n + 1) X.A) (hsl : ∀ x v, subscripted i true (.ref x) v = runValue (.builtin "lifetime.subscript" ⟨[.ref x, v], []⟩) := by intro _ _; with_unfolding_all rfl) :
    PE X (.Subscript o i pos) (tOp (yIxO C sp E) to ti) := by
  refine ⟨fun pins s σ H Q I h => ?_⟩
  refine Subscript_ (thn (ho.run pins s σ H _ I h) fun v s1 ⟨x, H1, I1, r1, q1⟩ => thn (hi.run pins s1 σ H1 _ I1 q1) fun u s2 ⟨y, H2, I2, r2, q2⟩ => ?_)
  obtain ⟨a, dx, fs, rfl, ha, hsp⟩ := q2
  cases r1
  obtain ⟨mA, J, _⟩ := ins_get I2.hok ha
  obtain ⟨od, J, _⟩ := J.look
  obtain ⟨m, hF⟩ := I2.fr
  refine PySem.W.sub_K hF I2.ok.mod.kin J hs hf hfn ?_ (hsl _ _)
  have hl : ([Value.ref a, u] ++ []).length = ps.length := F.len _ _ _ _ hsp
  refine wpAny_call (codeAny_mono (F.run X.A.in1 X.stack s2 H2 ⟨[.ref a, u], []⟩ [.ref a, u] [.ref a, y] Q E hr.in1 I2.env0.in1 (hb s2 [.ref a, u] I2.kIn hl) (.cons rfl (.cons r2 .nil)) hsp) fun r s' hq => ?_)
  cases r with
  | error e => exact hx pins σ H2 s2 e s' I2 hq
  | ok fl =>
    cases fl with
    | ret u => exact I2.after hq
    | next => exact False.elim hq
    | brk => exact False.elim hq
    | cont => exact False.elim hq
def yStO (C : Addr) (sp : Sp) (E : XK) : TSet := fun x y v H Q => ∃ a dx fs, x = .ref a ∧ H a = some (.ins C dx fs) ∧ sp [.ref a, y, v] H (fun _ H' => Q H') E
theorem set_own (F : FnOk X.prog X.w X.K X.mg X.base CX n f fd ps sp) (hq : PySem.W.noSeq X.K C = true) (hs : PySem.W.findIn X.K (.ref C) "__setitem__" = some (some (.ref f))) (hfn : PySem.W.isFn X.K (.ref f) = true)
    (hb : Binds X.K fd ps []) (hx : Passes CX X E) (hr : Room n X.A) : PSet X (yStO C sp E) := by
  intro pins s σ H x y v xv yv vv Q I rx ry rv h
  obtain ⟨a, dx, fs, rfl, ha, hsp⟩ := h
  cases rx
  obtain ⟨mA, J, _⟩ := ins_get I.hok ha
  obtain ⟨od, J, _⟩ := J.look
  obtain ⟨m, hF⟩ := I.fr
  refine PySem.W.ksp_setItem hF I.ok.mod.kin J hq hs hfn ?_
  refine wpAny_mono (run_fn (us := [.ref a, yv, vv]) (vs := [.ref a, y, v]) (dvs := []) F hr hb .nil hx I (.cons rfl (.cons ry (.cons rv .nil))) hsp) (fun r s' q => ?_) fun _ _ e => e
  obtain ⟨z, H', I', rz, q⟩ := q
  exact ⟨H', I', q⟩
end
end XL
set_option Elab.async false
set_option linter.all false
set_option maxRecDepth 100000
set_option maxHeartbeats 4000000
/-! XTup: tuples made by a display or by +, as objects without a dict. -/
namespace XL
open PySem PySem.Spec PyProof.Rows L2
section
variable {X : Cx} {es : List Expr} {t : TA} {pos : Pos}
def tTupF (t : TA) : TE := fun σ H Q => t σ H fun xs H1 => xs.length ≤ sizeLine ∧ ∀ p ob, H1 p = none → ob.dict = none → Q (.ref p) (upd H1 p (.frz ob (.tup xs)))
theorem pe_tupF {x1} (h : PA X es t) : PE X (.Tuple es x1 pos) (tTupF t) := by
  refine ⟨fun pins s σ H Q I hq => ?_⟩
  refine wpAny_Tuple_spliced (thn (h.run pos pins s σ H _ I hq) fun us s1 ⟨xs, H1, I1, r, z, q⟩ => ⟨by rw [← r.length]; exact z, ?_⟩)
  have hf : H1 s1.heap.objs.size = none := I1.hok.fresh (Nat.le_refl _)
  refine ⟨.ref s1.heap.objs.size, _, I1.laid (t' := s1.toks) (o := .frz { cls := .type "tuple", data := .seq us.toArray } (.tup xs)) (fun b u e => Heap.get?_push_of_some _ e) (Nat.le_refl _) ?_, rfl, q _ _ hf rfl⟩
  exact ⟨Heap.get?_push_size _ rfl, z, us, r, ⟨_, Heap.get?_push_size _ rfl, rfl, _, rfl⟩⟩
def rCatF (K : PySem.W.Frag) : R2 := fun x y H Q => ∃ a b xs ys, x = .ref a ∧ y = .ref b ∧ SqT K H a xs ∧ SqT K H b ys ∧ xs.length + ys.length ≤ sizeLine ∧
  (xs = [] → Q (.ref b) H) ∧ (xs ≠ [] → ys = [] → Q (.ref a) H) ∧ (xs ≠ [] → ys ≠ [] → ∀ p ob, H p = none → ob.dict = none → Q (.ref p) (upd H p (.frz ob (.tup (xs ++ ys)))))
theorem op_catFK (K : PySem.W.Frag) (h : X.K = K := by rfl) : OpR X (binaryOp .Add) (rCatF K) := by
  subst h
  intro pins s σ H x y v u Q I rx ry h
  obtain ⟨a, b, xs, ys, rfl, rfl, ha, hb, hz, q0, q1, q2⟩ := h
  by_cases hx : xs = []
  · exact op_catA pins s σ H _ _ v u Q I rx ry ⟨a, b, xs, ys, rfl, rfl, ha, hb, hz, q0, fun z => absurd hx z, fun z => absurd hx z⟩
  · cases rx
    cases ry
    obtain ⟨its, r1, p1, _⟩ := I.tuple ha
    obtain ⟨its2, r2, p2, _⟩ := I.tuple hb
    refine HT.cat_tup p1 p2 (fun z => hx (r1.nil_iff.mp z)) (fun z => ⟨.ref a, H, I, rfl, q1 hx (r2.nil_iff.mp z)⟩) (fun z => ?_) (by rw [← r1.length, ← r2.length]; exact hz)
    refine ⟨.ref s.heap.objs.size, _, I.laid (t' := s.toks) (o := .frz { cls := .type "tuple", data := .seq (its ++ its2).toArray } (.tup (xs ++ ys))) (fun b ob q => Heap.get?_push_of_some _ q) (Nat.le_refl _) ?_, rfl, q2 hx (fun w => z (r2.nil_iff.mpr w)) _ _ (I.hok.fresh (Nat.le_refl _)) rfl⟩
    exact ⟨Heap.get?_push_size _ rfl, by rw [List.length_append]; exact hz, _, r1.append r2, IsTup.new _ _⟩
end
section
variable {K : PySem.W.Frag} {a : Addr} {xs : List V} {Qd : Hp → Prop} {B : V → Hp → (Hp → Prop) → Prop} {H0 : Hp}
/-- a clause of a comprehension over a list -/
theorem loopL (Pv : Nat → Hp → Prop) (h0 : Pv 0 H0) (hl : ∀ k H, Pv k H → SqL K H a xs) (hs : ∀ k x H, xs[k]? = some x → Pv k H → B x H (Pv (k + 1))) (hd : ∀ H, Pv xs.length H → Qd H) :
    ∃ W : Nat → Nat → Hp → Prop, (∃ m, W 0 m H0) ∧ ∀ i m H, W i m H → ((Itl K a).stop i H ∧ Qd H) ∨ ((Itl K a).go i H ∧ ∃ Nx : Hp → Prop, (∀ H', Nx H' → ∃ m', m' < m ∧ W (i + 1) m' H') ∧ ∀ x H', (Itl K a).yld i H x H' → B x H' Nx) := by
  refine ⟨fun i m H => m = xs.length - i ∧ i ≤ xs.length ∧ Pv i H, ⟨xs.length, by simp, Nat.zero_le _, h0⟩, ?_⟩
  rintro i m H ⟨rfl, hi, p⟩
  have q := hl i H p
  by_cases hlt : i < xs.length
  · refine .inr ⟨⟨xs, xs[i], q, by simp [hlt]⟩, Pv (i + 1), fun H' p' => ⟨xs.length - (i + 1), by omega, rfl, hlt, p'⟩, fun x H' y => ?_⟩
    obtain ⟨e, y⟩ := y
    subst e
    exact hs i x _ (y xs q) p
  · have e : i = xs.length := by omega
    subst e
    exact .inl ⟨⟨xs, q, Nat.le_refl _⟩, hd H p⟩
/-- a clause of a comprehension over a range -/
theorem loopR {lo : Int} {n : Nat} (Pv : Nat → Hp → Prop) (h0 : Pv 0 H0) (hs : ∀ k H, k < n → Pv k H → B (.int (lo + k)) H (Pv (k + 1))) (hd : ∀ H, Pv n H → Qd H) :
    ∃ W : Nat → Nat → Hp → Prop, (∃ m, W 0 m H0) ∧ ∀ i m H, W i m H → ((Itr lo n).stop i H ∧ Qd H) ∨ ((Itr lo n).go i H ∧ ∃ Nx : Hp → Prop, (∀ H', Nx H' → ∃ m', m' < m ∧ W (i + 1) m' H') ∧ ∀ x H', (Itr lo n).yld i H x H' → B x H' Nx) := by
  refine ⟨fun i m H => m = n - i ∧ i ≤ n ∧ Pv i H, ⟨n, by simp, Nat.zero_le _, h0⟩, ?_⟩
  rintro i m H ⟨rfl, hi, p⟩
  by_cases hlt : i < n
  · refine .inr ⟨hlt, Pv (i + 1), fun H' p' => ⟨n - (i + 1), by omega, rfl, hlt, p'⟩, fun x H' y => ?_⟩
    obtain ⟨e, y⟩ := y
    subst e y
    exact hs i _ hlt p
  · have e : i = n := by omega
    subst e
    exact .inl ⟨Nat.le_refl _, hd H p⟩
/-- row + (item,) -/
theorem cat_one {G H : Hp} {M : List (Addr × HO)} {r : Addr} {n : List Int} {i : Int} {Q : VK} (S : Sep G M H) (hr : TupF G r (n.map V.int)) (hl : n.length ≤ 1000)
    (q : ∀ (p : Addr) (G' H' : Hp), Same G G' → Sep G' M H' → TupF G' p ((n ++ [i]).map V.int) → Q (.ref p) H') :
    [V.int i].length ≤ sizeLine ∧ ∀ p ob, H p = none → ob.dict = none → rCatF K (.ref r) (.ref p) (upd H p (.frz ob (.tup [.int i]))) Q := by
  refine ⟨sz, fun p ob np hob => ?_⟩
  have S1 := S.newG (o := .frz ob (.tup [.int i])) np
  have s1 := S.grow (o := .frz ob (.tup [.int i])) np
  have h1 : TupF (upd G p (.frz ob (.tup [.int i]))) p [.int i] := ⟨ob, hob, upd_same⟩
  refine ⟨r, p, n.map V.int, [.int i], rfl, rfl, ((hr.same s1).same S1.1).tu.sq, (h1.same S1.1).tu.sq, small (by rw [List.length_map]; simp; omega), fun e => ?_, fun _ e => (nomatch e), fun _ _ p2 ob2 np2 hob2 => ?_⟩
  · have e2 : n = [] := List.map_eq_nil_iff.mp e
    subst e2
    exact q p _ _ s1 S1 h1
  · have e3 : n.map V.int ++ [V.int i] = (n ++ [i]).map V.int := by rw [List.map_append]; rfl
    rw [e3]
    exact q p2 _ _ (s1.trans (S1.grow np2)) (S1.newG np2) ⟨ob2, hob2, upd_same⟩
end
end XL
set_option Elab.async false
set_option linter.all false
set_option maxRecDepth 100000
set_option maxHeartbeats 4000000
/-! XExc: an error of the program's own, class E(ScreenError): __init__(self, x): super().__init__(f'..{x!r}'); self.x = x: made, raised, caught. -/
namespace PySem
namespace XExc
open PySem.W PySem.Calls PyProof.Rows PySem.HandSPX
/-! ### the text of __init__ -/
def iA (fld : Str) (p1 p2 : Pos) : Arguments := { posonlyargs := [], args := [{ arg := "self", annotation := none, pos := p1 }, { arg := fld, annotation := none, pos := p2 }], vararg := none, kwonlyargs := [], kw_defaults := [], kwarg := none, defaults := [] }
structure Ps where
  a : Pos
  b : Pos
  c : Pos
  d : Pos
  e : Pos
  f : Pos
  g : Pos
  h : Pos
  i : Pos
  j : Pos
  k : Pos
  l : Pos
  m : Pos
def iSup (q : Ps) : Expr := .Call (.Name "super" q.a) [] [] q.b
def iArg (fld : Str) (msg : Str) (q : Ps) : Expr := .JoinedStr [.Constant (.str msg) 0 q.d, .FormattedValue (.Name fld q.e) 114 none q.f] q.g
def iCall (fld : Str) (msg : Str) (q : Ps) : Expr := .Call (.Attribute (iSup q) "__init__" q.c) [iArg fld msg q] [] q.h
def iB (fld : Str) (msg : Str) (q : Ps) : List Stmt := [.Expr (iCall fld msg q) q.i, .Assign [.Attribute (.Name "self" q.j) fld q.k] (.Name fld q.l) q.m]
/-- how the call is evaluated (the positions decide nothing here) -/
def Evals (fld msg : Str) (q : Ps) : Prop := ∃ pl : Env → Sem Bool, ∀ env : Env, eval (iCall fld msg q) env = (do
  let ov ← attributeBase (iSup q) "__init__" env (eval (iSup q) env)
  standAt q.c.atName
  let (f, first) ← holding [ov] (getMethod ov "__init__" (pl env))
  callWith q.h f first (backTo q.h (starEach [iArg fld msg q] env)) [])
def iN (fld : Str) : List (Str × NameKind) := [(PySem.Str.ofString "self", .local), (fld, .local), (PySem.Str.ofString "__class__", .free), (PySem.Str.ofString "super", .globalImplicit)]
def iS (fld : Str) : Scope := { kind := .function, names := iN fld, isGenerator := false, isCoroutine := false, more := [] }
/-- what the written part says of the class at C and of its __init__ at fI -/
structure ExTxt (P : Program) (K : Frag) (mg : Str → Option Value) (nm fld msg : Str) (C fI : Addr) : Prop where
  gC : mg nm = some (.ref C)
  cls : ∃ nm q N bs bm sn sub ab col dd k0 k1 k2 k3 k5, K.lookup C = some (excClassObj nm q C N bs bm true sn sub ab col dd k0 k1 k2 k3 k5 "ValueError.__new__") ∧ refsVE bm = true
  sa : findIn K (.ref C) "__setattr__" = some (some (.builtin "object.__setattr__"))
  ga : findIn K (.ref C) "__getattribute__" = some (some (.builtin "BaseException.__getattribute__"))
  gg : findIn K (.ref C) "__getattr__" = some none
  noN : findIn K (.ref C) fld = some none
  iC : findIn K (.ref C) "__init__" = some (some (.ref fI))
  tC : typeIn K (.ref fI) = some (.type "function")
  kC : keepIn K (.ref C) = true
  exC : subIn K (.ref C) (.type "BaseException") = some true
  tyC : typeIn K (.ref C) = some (.type "type")
  hdC : hasDictIn K C = true
  fn : ∃ (oc kV doc pm ct : Value) (od an : Option Addr) (osl : Array (Option Value)) (qual : Str) (cda cc : Addr) (p1 p2 : Pos) (q : Ps) (vs : Array Value) (file : Str) (tf : Tok) (ccl cl : Value) (cdd cld : Option Addr) (ccs csl : Array (Option Value)),
    K.lookup fI = some ⟨oc, od, .func (ksFn "__init__" qual (iA fld p1 p2) (iB fld msg q) (iS fld) .none kV doc pm an (.ref cda) ct cc), osl⟩ ∧ codeIn K (.ref cda) qual = true ∧ K.lookup cda = some ⟨ccl, cdd, .fields vs, ccs⟩ ∧ vs[2]? = some (.str file tf) ∧
    ((P.main.file : Str) == file) = true ∧ K.lookup cc = some ⟨cl, cld, .cell (some (.ref C)), csl⟩ ∧ Evals fld msg q ∧
    ∀ x v : Value, bindArgs (ksFn "__init__" qual (iA fld p1 p2) (iB fld msg q) (iS fld) .none kV doc pm an (.ref cda) ct cc) ⟨[x, v], []⟩ = pure [(("self" : Str), x), (fld, v)]
  sup : ks_superIn K C C "__init__" = some (some (.builtin "ValueError.__init__"))
  subV : subIn K (.ref C) (.type "ValueError") = some true
  mroS : mroIn K C (.ref C) = some true
  opq : nsIn K cStatics "thirdparty.any" = some none
  htop : (P.main.scope.names.lookup ("super" : Str)).isSome = false
  hsup : mg "super" = none
  f1 : fld ≠ "self"
  f2 : fld ≠ "__class__"
  f3 : fld ≠ "super"
  f4 : (fld == ("__debug__" : Str)) = false
  ml : msg.length ≤ 1000
/-- where the program stands -/
def PF (P : Program) (fl : Str) : Prop := ((P.main.file : Str) == fl) = true ∧ (P.main.scope.names.lookup ("super" : Str)).isSome = false
/-- what can be told in the message -/
def Rp (v : Value) : Prop := (∃ (y : Str) (t : Tok), v = .str y t ∧ (reprText y).length ≤ 100000) ∨ ∃ (i : Int) (t : Tok), v = .int i t ∧ i.natAbs.log2 < 1920
structure InitEnd (h h' : Heap) (x C dx : Addr) (fld : Str) (v : Value) : Prop where
  keep : ∀ b o, b ≠ x → h.get? b = some o → h'.get? b = some o
  obj : ∃ t1 : Addr, h'.get? x = some { cls := .ref C, dict := some dx, data := .fields #[.ref t1, .none, .none, .none, .bool false, .none] }
  dbig : h.objs.size ≤ dx
  dne : dx ≠ x
  ns : h'.Ns1 dx (fun y => if y = fld then some v else none)
structure OwnMade (h h' : Heap) (e C d : Addr) (fld : Str) (v : Value) : Prop where
  keep : ∀ b o, h.get? b = some o → h'.get? b = some o
  new : h.objs.size ≤ e
  obj : ∃ oe vs, h'.get? e = some oe ∧ oe.cls = .ref C ∧ oe.dict = some d ∧ oe.data = .fields vs ∧ vs[1]? = some .none
  dbig : h.objs.size ≤ d
  dne : d ≠ e
  ns : h'.Ns1 d (fun y => if y = fld then some v else none)
section
variable {prog : Program} {w : World} {A : Around} {E : Value → Shared → Prop} {h : Heap} {g : Array GenState} {d : Drawn} {t : Nat} {os : OsState}
variable {nm q : Str} {C N : Addr} {bs bm : List Value} {hdct : Bool} {sn : List Str} {sub : List Value} {ab : Bool} {col : Option Bool} {dd : Option Addr} {k0 k1 k2 k3 k5 : Option Value}
theorem call_mw {u e t0 : Addr} {rest : List Value} {Q : Value → Shared → Prop}
    (hC : h.get? C = some (excClassObj nm q C N bs bm hdct sn sub ab col dd k0 k1 k2 k3 k5 "ValueError.__new__")) (he : h.get? e = some (excO C t0)) (hu : h.get? u = some (kxs_mw "ValueError.__init__" e)) (hrest : rest.length ≤ sizeLine)
    (hq : ∀ h' t1, (∀ b o, b ≠ e → h.get? b = some o → h'.get? b = some o) → h.objs.size ≤ h'.objs.size → h'.get? e = some (excO C t1) → Q .none ⟨h', g, d, t, os⟩) :
    wpAny (model prog w) A (call (.ref u) rest) Q E ⟨h, g, d, t, os⟩ := by
  refine wpAny_call (codeAny_of_tree ?_)
  show wpAny _ A.in1 (callAny (.ref u) ⟨rest, []⟩) _ _ _
  simp only [callAny]
  refine wpAny_bind (wpAny_load hu ?_)
  simp only [kxs_mw, show (Value.type "method-wrapper" == Value.type "method" || Value.type "method-wrapper" == Value.type "builtin_function_or_method" || Value.type "method-wrapper" == Value.type "method-wrapper") = true by decide, if_true]
  refine W.KFB.if_so (by decide) ?_
  refine wpAny_bind (check_bound_init F.excBase_ValueError.toExcCallFacts hC he rfl ?_)
  refine wpAny_bind (wpAny_pure (wpAny_pure ?_))
  refine ⟨plainId_quiet F.excBase_ValueError.init.plain _, codeAny_builtin F.excBase_ValueError.initEntry ?_⟩
  rw [Around.under_plainId F.excBase_ValueError.init.plain _]
  wp_walk
  refine hq _ h.objs.size (fun b o hb ho => ?_) ?_ ?_
  · rw [Heap.get?_update_other _ _ (Ne.symm hb)]
    exact Heap.get?_push_of_some _ ho
  · simp [Heap.size_push]
  · rw [Heap.get?_update_self _ (Heap.get?_push_of_some _ he) rfl]
    rfl
end
section
variable {prog : Program} {w : World} {A : Around} {E : Value → Shared → Prop} {R : Result → Shared → Prop} {s : Shared} {K : Frag} {mg mb : Str → Option Value} {nm fld msg : Str} {C fI : Addr}
theorem one_size (v : Value) : [v].length ≤ sizeLine := by
  rw [sizeLine_eq]
  exact (by decide : 1 ≤ 16777216)
/-- f'..{v!r}' -/
theorem told_ok {env : Env} {q : Ps} {m : Str → Option Value} {v : Value} {Q : Value → Shared → Prop} (hn : s.heap.Ns env.locals m) (hv : m fld = some v) (hr : Rp v) (hml : msg.length ≤ 1000) (hk : env.scope.kind = .function) (hl : env.kindOf fld = some .local) (hd : (fld == ("__debug__" : Str)) = false)
    (h : ∀ u tk, Q u { s with toks := tk }) : wpAny (model prog w) A (eval (iArg fld msg q) env) Q E s := by
  unfold iArg
  have sm : ∀ n : Nat, n ≤ 200000 → n ≤ sizeLine := fun n hn => Nat.le_trans hn (by decide)
  refine wpAny_JoinedStr ?_
  have e0 : evalEach [Expr.Constant (.str msg) 0 q.d, .FormattedValue (.Name fld q.e) 114 none q.f] env = [eval (.Constant (.str msg) 0 q.d) env, eval (.FormattedValue (.Name fld q.e) 114 none q.f) env] := by first | rfl | simp [evalEach]
  rw [e0]
  refine Calls.Constant_str ⟨msg, _, rfl, ?_, ?_⟩
  · rw [Str.length_append]
    exact sm _ (by show 0 + msg.length ≤ _; omega)
  refine wpAny_FormattedValue_repr (ESX.ldL hn hv ?_ hk hl hd)
  rcases hr with ⟨y, t, rfl, hz⟩ | ⟨i, t, rfl, hz⟩
  · have hz' : (reprText y).length ≤ sizeLine := sm _ (by omega)
    have out : ∀ (tk : Tok) (tt : Nat), ∃ (y' : Str) (t' : Tok), Value.str (reprText y) tk = .str y' t' ∧ (Str.empty ++ msg ++ y').length ≤ sizeLine ∧ Joins (model prog w) A E [] (Str.empty ++ msg ++ y') (fun out s₁ => out.length ≤ sizeLine ∧ Q (.str out s₁.toks) { s₁ with toks := s₁.toks + 1 }) { s with toks := tt } := fun tk tt => by
      have hl : (Str.empty ++ msg ++ reprText y).length ≤ sizeLine := by
        rw [Str.length_append, Str.length_append]
        exact sm _ (by show 0 + msg.length + _ ≤ _; omega)
      exact ⟨_, _, rfl, hl, hl, h _ _⟩
    exact pyReprObj_str (wpAny_formatField_str (out _ _) (out _ _) hz') hz'
  · have hz' := int_text_fits hz
    have ln : (toString i : Str).length ≤ 100000 := by
      have e := int_text_length_le (k := 1920) (by decide) hz
      show (Str.ofString (toString i)).length ≤ 100000
      rw [ofString_length]
      omega
    have out : ∀ (tk : Tok) (tt : Nat), ∃ (y' : Str) (t' : Tok), Value.str (toString i) tk = .str y' t' ∧ (Str.empty ++ msg ++ y').length ≤ sizeLine ∧ Joins (model prog w) A E [] (Str.empty ++ msg ++ y') (fun out s₁ => out.length ≤ sizeLine ∧ Q (.str out s₁.toks) { s₁ with toks := s₁.toks + 1 }) { s with toks := tt } := fun tk tt => by
      have hl : (Str.empty ++ msg ++ (toString i : Str)).length ≤ sizeLine := by
        rw [Str.length_append, Str.length_append]
        exact sm _ (by show 0 + msg.length + _ ≤ _; omega)
      exact ⟨_, _, rfl, hl, hl, h _ _⟩
    exact pyReprObj_int hz (wpAny_formatField_str (out _ _) (out _ _) hz')
end
section
variable {prog : Program} {w : World} {A : Around} {E : Value → Shared → Prop} {R : Result → Shared → Prop} {K : Frag} {mg mb : Str → Option Value} {nm fld msg : Str} {C fI : Addr}
theorem kept_but {K : Frag} {h h' : Heap} {x : Addr} (X : K.In h) (hx : K.lookup x = none) (k : ∀ b o, b ≠ x → h.get? b = some o → h'.get? b = some o) : K.In h' := fun a o e =>
  k a o (fun z => by rw [z, hx] at e; cases e) (X a o e)
theorem exc_init (T : ExTxt prog K mg nm fld msg C fI) {x t0 : Addr} {v : Value} {hp : Heap} {g : Array GenState} {dr : Drawn} {tk : Nat} {os : OsState} (X : K.In hp) (hlim : hp.NoLimit) (hG : hp.Ns mainGlobals mg) (hB : hp.Ns builtinsNs mb) (hbb : ∀ x : Str, x ≠ "__name__" → mb x = bootBuiltins x)
    (hx : hp.get? x = some (excO C t0)) (hnx : K.lookup x = none) (hroom : A.depth < recursionLimit) (hr : Rp v)
    (hq : ∀ h' tk' dx, InitEnd hp h' x C dx fld v → R (.ok (.ret .none)) ⟨h', g, dr, tk', os⟩) :
    codeAny (model prog w) A (.call (.ref fI) ⟨[.ref x, v], []⟩) R ⟨hp, g, dr, tk, os⟩ := by
  obtain ⟨oc, kV, doc, pm, ct, od, an, osl, qual, cda, cc, p1, p2, q, vs, file, tf, ccl, cl, cdd, cld, ccs, csl, ho, hcd, hcda, hvs, hfile, hcc, ⟨pl, hev⟩, hbind⟩ := T.fn
  obtain ⟨nm', q', N, bs, bm, sn, sub, ab, col, dd, k0, k1, k2, k3, k5, hC, hbm⟩ := T.cls
  have hcl : clsIn K C = some { name := nm', bases := bs, mro := .ref C :: bm, ns := N, qualname := q', hasDict := true, slotNames := sn, subclasses := sub, abstract := ab, collection := col, hasDel := false } := by unfold clsIn; rw [hC] <;> rfl
  have e1 : (iS fld).names.lookup fld = some .local := by
    show (iN fld).lookup fld = _
    unfold iN
    have z : (fld == PySem.Str.ofString "self") = false := by simpa using T.f1
    simp [List.lookup, z]
  have e2 : (iS fld).names.lookup ("self" : Str) = some .local := rfl
  have e3 : (iS fld).names.lookup ("__class__" : Str) = some .free := by
    show (iN fld).lookup ("__class__" : Str) = _
    unfold iN
    have z : (("__class__" : Str) == fld) = false := by simpa using Ne.symm T.f2
    have z2 : (("__class__" : Str) == PySem.Str.ofString "self") = false := by decide
    simp [List.lookup, z, z2]
  have e4 : (iS fld).names.lookup ("super" : Str) = some .globalImplicit := by
    show (iN fld).lookup ("super" : Str) = _
    unfold iN
    have z : (("super" : Str) == fld) = false := by simpa using Ne.symm T.f3
    have z2 : (("super" : Str) == PySem.Str.ofString "self") = false := by decide
    have z3 : (("super" : Str) == PySem.Str.ofString "__class__") = false := by decide
    simp [List.lookup, z, z2, z3]
  refine ks_codeAny_call_defAt (fd := ksFn "__init__" qual (iA fld p1 p2) (iB fld msg q) (iS fld) .none kV doc pm an (.ref cda) ct cc) (body := iB fld msg q) (binds := [("self", .ref x), (fld, v)]) hroom (X _ _ ho) rfl hlim (codeRec_of X hcd) rfl (BindsTo.of_eq (hbind _ _)) ?_ ?_ (fun h₁ hn k => ?_) rfl rfl rfl
  · intro y hy
    have hy : y ∈ iN fld := hy
    unfold iN at hy
    simp only [List.mem_cons, List.not_mem_nil, or_false] at hy
    rcases hy with rfl | rfl | rfl | rfl <;> exact fun z => nomatch z
  · intro y hy
    simp only [List.mem_cons, List.not_mem_nil, or_false] at hy
    rcases hy with rfl | rfl
    · exact e2
    · exact e1
  have X₁ : K.In h₁ := X.keeps k
  have hxL : hp.objs.size ≠ x := Nat.ne_of_gt (Heap.lt_size hx)
  have hx₁ := k _ _ hx
  have mS : List.lookup ("self" : Str) (List.reverse [(("self" : Str), Value.ref x), (fld, v)]) = some (.ref x) := by
    show List.lookup ("self" : Str) [(fld, v), (("self" : Str), Value.ref x)] = _
    have z : (("self" : Str) == fld) = false := by simpa using Ne.symm T.f1
    simp [List.lookup, z]
  have mF : List.lookup fld (List.reverse [(("self" : Str), Value.ref x), (fld, v)]) = some v := by
    show List.lookup fld [(fld, v), (("self" : Str), Value.ref x)] = _
    simp [List.lookup]
  refine ks_wpAt_execs_cons (ks_wpAt_Expr_any (ks_wpAt_MethodCall (o := iSup q) (name := "__init__") (he := hev _) ?_))
  have oC := X₁ _ _ hC
  refine ks_wpAt_super_base (env := callEnv (ksFn "__init__" qual (iA fld p1 p2) (iB fld msg q) (iS fld) .none kV doc pm an (.ref cda) ct cc) hp.objs.size fI) e4 e3 (by decide) rfl (X₁ _ _ ho) rfl rfl rfl (X₁ _ _ hcda) rfl hvs hfile T.htop ?_
  refine ks_loadName_global rfl e4 (loadGlobal_builtin (hG.keeps k) T.hsup (hB.keeps k) ((hbb _ (by decide +kernel)).trans (by first | boot_by_name | rfl | kernel_rfl)) ⟨rfl, ?_⟩)
  refine wpAny_loadName_free rfl e3 rfl ⟨_, X₁ _ _ hcc, rfl⟩ ?_
  refine wpAny_loadName_local rfl e2 hn mS ?_
  refine ks_wpAny_isType_cls oC rfl ⟨rfl, ?_⟩
  refine ks_wpAny_call_super oC rfl hx₁ rfl (fun c e => (nomatch e)) (looks_mroIn X₁ T.mroS) (fun h₂ hso k₂ => ?_)
  have X₂ : K.In h₂ := X₁.keeps k₂
  have hx₂ := k₂ _ _ hx₁
  have hsup : alongIn K "__init__" (((Value.ref C :: bm).dropWhile (· != .ref C)).drop 1) = some (some (.builtin "ValueError.__init__")) := by
    have z := T.sup
    unfold ks_superIn at z
    rw [hcl] at z
    exact z
  have I₂ : InstAt h₂ x (excO C t0) C none := ⟨hx₂, rfl, rfl, trivial⟩
  refine kxs_getMethod kxs_ValueError hso (looks_opaque X₂ T.opq) (l₀ := .ref C :: bm) ?_ rfl X₂ hsup (I₂.type.andThen (looks_subIn X₂ T.subV)) (ks_ne X₂ I₂ hcl) (by decide) ?_
  · exact fun A Q E s k q => wpAny_bind ((looks_clsIn X₂ hcl) A _ E s k (wpAny_pure q))
  have hu : (h₂.push (kxs_mw "ValueError.__init__" x)).get? h₂.objs.size = some (kxs_mw "ValueError.__init__" x) := Heap.get?_push_at rfl rfl
  have k₃ : ∀ b o, h₂.get? b = some o → (h₂.push (kxs_mw "ValueError.__init__" x)).get? b = some o := fun b o e => Heap.get?_push_of_some _ e
  have X₃ := X₂.keeps k₃
  have hn₃ : (h₂.push (kxs_mw "ValueError.__init__" x)).Ns hp.objs.size _ := (hn.keeps k₂).keeps k₃
  refine kxs_callWith (i := "ValueError.__init__") (x := x) rfl (evalArgs_plain ?_)
  show wpAny _ _ (spliced ((false, eval (iArg fld msg q) _) :: backTo q.h (starEach [] _))) _ _ _
  refine Calls.spliced_cons (told_ok hn₃ mF hr T.ml rfl e1 T.f4 fun u tk' => Calls.spliced_nil ⟨hu, ?_⟩)
  show wpAny _ _ (call (.ref h₂.objs.size) [u]) _ _ _
  refine call_mw (X₃ _ _ hC) (k₃ _ _ hx₂) hu (one_size _) fun h₄ t1 k₄ sz₄ hx₄ => ?_
  show wpAt _ _ _ (execs _ _) _ _ _
  refine wpAt_of_wpAny ?_
  have X₄ : K.In h₄ := kept_but X₃ hnx k₄
  have hn₄ : h₄.Ns hp.objs.size (fun x_1 => List.lookup x_1 (List.reverse [(("self" : Str), Value.ref x), (fld, v)])) := by
    obtain ⟨oL, es, ep, hL, r⟩ := hn₃
    exact ⟨oL, es, ep, k₄ _ _ hxL hL, r⟩
  refine wpAny_execs_cons (plainObj_wpAny_Assign_Attribute ?_)
  refine ESX.ldL hn₄ mF (ESX.ldL hn₄ mS ?_ rfl e2) rfl e1 T.f4
  refine set_plain X₄ (ox := excO C t1) (od := none) ⟨hx₄, rfl, rfl, trivial⟩ T.sa ?_
  refine exc_osa X₄ hx₄ hcl (show refsVE (.ref C :: bm) = true from hbm) rfl T.noN (fun h₅ tk₅ dx k₅ dn dne hx₅ hn₅ => ?_)
  show wpAny _ _ (execs _ _) _ _ _
  have z : hp.objs.size < h₄.objs.size := hn₄.lt
  exact wpAny_execs_nil (hq h₅ tk₅ dx ⟨fun b o hb e => k₅ b o hb (k₄ b o hb (k₃ b o (k₂ b o (k b o e)))), ⟨t1, hx₅⟩, Nat.le_of_lt (Nat.lt_of_lt_of_le z dn), dne, hn₅⟩)
end
section
variable {prog : Program} {w : World} {A : Around} {R : Result → Shared → Prop} {K : Frag} {mg mb : Str → Option Value} {nm fld msg : Str} {C fI : Addr}
theorem exc_made (T : ExTxt prog K mg nm fld msg C fI) {v : Value} {hp : Heap} {g : Array GenState} {dr : Drawn} {tk : Nat} {os : OsState} (X : K.In hp) (hlim : hp.NoLimit) (hG : hp.Ns mainGlobals mg) (hB : hp.Ns builtinsNs mb) (hbb : ∀ x : Str, x ≠ "__name__" → mb x = bootBuiltins x) (hroom : A.depth + 1 < recursionLimit) (hr : Rp v)
    (hq : ∀ h' tk' e d, OwnMade hp h' e C d fld v → R (.ok (.ret (.ref e))) ⟨h', g, dr, tk', os⟩) :
    codeAny (model prog w) A (.call (.ref C) ⟨[v], []⟩) R ⟨hp, g, dr, tk, os⟩ := by
  obtain ⟨nm', q', N, bs, bm, sn, sub, ab, col, dd, k0, k1, k2, k3, k5, hC, hbm⟩ := T.cls
  have k : ∀ b o, hp.get? b = some o → ((hp.push (kdv_tup [v])).push (excO C hp.objs.size)).get? b = some o := fun b o e => Heap.get?_push_of_some _ (Heap.get?_push_of_some _ e)
  have hget : ((hp.push (kdv_tup [v])).push (excO C hp.objs.size)).get? (hp.objs.size + 1) = some (excO C hp.objs.size) := by heap_get
  have hnx : K.lookup (hp.objs.size + 1) = none := by
    cases e : K.lookup (hp.objs.size + 1) with
    | none => rfl
    | some o =>
      have z : hp.get? (hp.objs.size + 1) = some o := X _ _ e
      exact absurd (Nat.lt_of_succ_lt (Heap.lt_size z)) (Nat.lt_irrefl _)
  refine call_own F.excBase_ValueError (fun X => refsVE_contains X bm hbm) (X _ _ hC) (looks_findIn X T.iC) (fun self => bind_fn X self T.tC) (one_size v) ?_
  refine exc_init (tk := tk) T (X.keeps k) (hlim.keeps k) (hG.keeps k) (hB.keeps k) hbb hget hnx ?_ hr fun h' tk' dx ⟨k', ⟨t1, hx⟩, dn, dne, hns⟩ => ?_
  · show A.depth + 1 < recursionLimit
    exact hroom
  · have old : ∀ b o, hp.get? b = some o → h'.get? b = some o := fun b o e => k' b o (Nat.ne_of_lt (Nat.lt_succ_of_lt (Heap.lt_size e))) (k b o e)
    have z : hp.objs.size + 1 + 1 ≤ dx := by
      first
        | (simpa only [Heap.size_push] using dn)
        | exact dn
        | (have q := dn; rw [Heap.size_push, Heap.size_push] at q; exact q)
    exact ⟨rfl, hq h' tk' (hp.objs.size + 1) dx ⟨old, Nat.le_succ _, ⟨_, _, hx, rfl, rfl, rfl, rfl⟩, Nat.le_trans (Nat.le_trans (Nat.le_succ _) (Nat.le_succ _)) z, dne, hns⟩⟩
end
end XExc
end PySem
namespace XL
open PySem PySem.Spec PyProof.Rows L2
/-! ### the error, over the abstract heap -/
def RpV (v : V) : Prop := (∃ y : Str, v = .str y ∧ (reprText y).length ≤ 100000) ∨ ∃ i : Int, v = .int i ∧ i.natAbs.log2 < 1920
theorem RpV.rp {v : V} {u : Value} (h : RpV v) (r : RelV v u) : PySem.XExc.Rp u := by
  rcases h with ⟨y, rfl, hz⟩ | ⟨i, rfl, hz⟩
  · obtain ⟨t, rfl⟩ := r
    exact .inl ⟨y, t, rfl, hz⟩
  · obtain ⟨t, rfl⟩ := r
    exact .inr ⟨i, t, rfl, hz⟩
theorem relO_one {fld : Str} {v : V} {v' : Value} (r : RelV v v') (f : Str) : RelO (List.lookup f [(fld, v)]) (if f = fld then some v' else none) := by
  by_cases hw : f = fld
  · subst hw
    rw [if_pos rfl]
    have q : List.lookup f [(f, v)] = some v := by simp [List.lookup]
    rw [q]
    exact r
  · rw [if_neg hw]
    have qw : (f == fld) = false := by simpa using hw
    have q2 : List.lookup f [(fld, v)] = none := by simp [List.lookup, qw]
    rw [q2]
    trivial
section
variable {X : Cx} {C fI : Addr} {nm fld msg : Str}
def tMkX (C : Addr) (fld : Str) (ta : TA) : L2.St → Hp → XK → Prop := fun σ H Q => ta σ H fun vs H1 => ∃ v, vs = [v] ∧ RpV v ∧ ∀ d, H1 d = none → Q (.ref C) (some d) (upd H1 d (.xd [(fld, v)]))
theorem pmk_x {a : Expr} {ta : TA} {p pos : Pos} {k : Nat} (T : PySem.XExc.ExTxt X.prog X.K X.mg nm fld msg C fI) (hr : Room (k + 1) X.A) (ha : PA X [a] ta) (hg : Gl X nm := by rfl) (hd : (nm == ("__debug__" : Str)) = false := by decide)
    (he : starEach (a :: []) X.env = (false, eval a X.env) :: starEach [] X.env := by rfl) (hpl : (backTo pos (starEach [] X.env)).any (·.1) = false := by rfl) :
    PMk X (.Call (.Name nm p) [a] [] pos) (tMkX C fld ta) := by
  intro pins s σ H Q I h
  refine wpAny_Call_Name_kw (ld_glob I hg T.gC ?_ hd)
  refine PySem.W.callWith_K (h₀ := X.base) I.ok.mod.kin T.kC (thn (ha.run pos pins s σ H _ I h) fun us s1 hh => ?_) he hpl
  obtain ⟨vs, H1, I1, r1, v, ev, rp, q1⟩ := hh
  subst ev
  refine ⟨I1.kIn, ?_⟩
  cases r1 with
  | cons rv rn =>
    rename_i v' us'
    cases rn
    show wpAny _ _ (call (.ref C) [v']) _ _ _
    have hlim := I1.nolimit
    have hG := I1.mod.glob.keeps I1.bk
    obtain ⟨mb, hB, hbb⟩ := I1.mod.blt
    have hB := hB.keeps I1.bk
    obtain ⟨hp, g, dr, tk, os⟩ := s1
    refine wpAny_call (PySem.XExc.exc_made T I1.kIn hlim hG hB hbb (by have := hr.dp; omega) (rp.rp rv) fun h' tk' e d M => ?_)
    show MkP X pins σ Q (.ref e) ⟨h', g, dr, tk', os⟩
    obtain ⟨oe, fv, hoe, hc, hd, hdat, h1⟩ := M.obj
    have hns := M.ns
    obtain ⟨G', g1, g2⟩ := restrict h' fun b => decide (b ≠ e)
    have gk : ∀ b, b ≠ e → G'.get? b = h'.get? b := fun b hb => g1 b (decide_eq_true hb)
    have ge : G'.get? e = none := g2 e (by simp)
    have old : ∀ b o, hp.get? b = some o → G'.get? b = some o := fun b o q => (gk b (Nat.ne_of_lt (Nat.lt_of_lt_of_le (Heap.lt_size q) M.new))).trans (M.keep b o q)
    have ob : ObjOk X.prog X.w (upd H1 d (.xd [(fld, v)])) G' d (.xd [(fld, v)]) :=
      ⟨_, hns.at (fun o q => (gk d M.dne).trans q), fun f => relO_one rv f⟩
    have J : Inv X pins σ (upd H1 d (.xd [(fld, v)])) ⟨G', g, dr, tk', os⟩ := I1.laid (t' := tk') old M.dbig ob
    refine ⟨e, oe, fv, ⟨G', g, dr, tk', os⟩, _, .ref C, some d, rfl, J, fun b o q => ?_, ge, hoe, ⟨hc, hd⟩, hdat, h1, ?_, rfl, I1.bare, raises_own T.exC T.tyC, q1 d (I1.hok.fresh M.dbig)⟩
    · by_cases hb : b = e
      · have q' : G'.get? b = some o := q
        rw [hb, ge] at q'; cases q'
      · exact (gk b hb).symm.trans q
    · rw [upd_ne (Ne.symm M.dne)]
      exact I1.hok.fresh M.new
def tRaiseX (C : Addr) (fld : Str) (W : WX) (ta : TA) : TS := fun _ σ H => tMkX C fld ta σ H fun cls d H' => W cls d σ H'
theorem ps_raiseX {a : Expr} {ta : TA} {W : WX} {p pos pos2 : Pos} {k : Nat} (hc : X.calm = true) (T : PySem.XExc.ExTxt X.prog X.K X.mg nm fld msg C fI) (hr : Room (k + 1) X.A) (tk : Takes X W) (ha : PA X [a] ta) (hg : Gl X nm := by rfl) (hd : (nm == ("__debug__" : Str)) = false := by decide)
    (he : starEach (a :: []) X.env = (false, eval a X.env) :: starEach [] X.env := by rfl) (hpl : (backTo pos (starEach [] X.env)).any (·.1) = false := by rfl) :
    PS X (.Raise (some (.Call (.Name nm p) [a] [] pos)) none pos2) (tRaiseX C fld W ta) := ps_raise hc tk (pmk_x T hr ha hg hd he hpl)
end
/-! ### isinstance(e, c), isinstance(e, (c, ..)) of a caught error -/
section
variable {X : Cx} {a : Addr} {oe : Obj} {cls : Value} {d : Option Addr} {pn : List (Addr × Obj)}
inductive ClsRs : List V → List Value → Prop where
  | nil : ClsRs [] []
  | cons {c : Addr} {cs : List V} {us : List Value} (h : ClsRs cs us) : ClsRs (.ref c :: cs) (.ref c :: us)
theorem ClsRs.eq : ∀ {cs : List V} {us : List Value}, ClsRs cs us → ∀ {ws : List Value}, Vals cs ws → ws = us
  | _, _, .nil, _, .nil => rfl
  | _, _, .cons h, _, .cons r rs => by
    cases r
    rw [h.eq rs]
def rIsX (K : PySem.W.Frag) (cls : Value) (d : Option Addr) (a : Addr) : List V → Hp → VK → Prop := fun xs H Q => ∃ (D dd : Addr) (fs : List (Str × V)) (b : Bool), cls = .ref D ∧ d = some dd ∧ H dd = some (.xd fs) ∧ ExcC K D ∧
  ((∃ (c : V) (cv : Value), xs = [.ref a, c] ∧ (∀ u, RelV c u → u = cv) ∧ PySem.W.kitOne K (.ref D) cv = some b) ∨ ∃ (p : Addr) (cs : List V) (us : List Value), xs = [.ref a, .ref p] ∧ H p = some (.tup cs) ∧ ClsRs cs us ∧ PySem.W.kitAny K (.ref D) us = some b) ∧ Q (.bl b) H
theorem call_isX (hz : Zc cls d oe) (hf : ∃ vs, oe.data = .fields vs) : CallR (X.suite a ((a, oe) :: pn)) (.builtin "isinstance") (rIsX X.K cls d a) := by
  intro pins s σ H xs us Q I r h
  obtain ⟨D, dd, fs, b, rfl, rfl, hd, C, hcs, q⟩ := h
  obtain ⟨hget, _⟩ := I.pin (a, oe) (List.mem_append.mpr (.inl List.mem_cons_self))
  obtain ⟨vs, hv⟩ := hf
  have hx : ObjOk X.prog X.w H s.heap dd (.xd fs) := I.hok dd _ hd
  obtain ⟨mA, hns, _⟩ := hx
  obtain ⟨od, ho, _⟩ := lookIn_ns hns
  have J : PySem.W.InstAt s.heap a oe D (some od) := ⟨hget, hz.1, by unfold PySem.W.notCls; rw [hv] <;> rfl, by rw [hz.2]; exact ho⟩
  have cl : (PySem.W.clsIn X.K D).isSome = true := by
    obtain ⟨cd, hc, _⟩ := PySem.W.any_some C.hd
    rw [hc]
    rfl
  have Z := PySem.W.kitx_exc (x := a) (ox := oe) (od := some od) cl C.hg C.hk C.hs C.ha C.hn C.ht C.hm
  rcases hcs with ⟨c, cv, rfl, hcv, e⟩ | ⟨p, cs, us2, rfl, hp, hc, e⟩
  · cases r with
    | cons rx rr =>
      cases rr with
      | cons rt rr =>
        cases rr
        cases rx
        have ec := hcv _ rt
        subst ec
        exact PySem.W.kia_one Z I.kIn J e (fun z => nomatch z) fun tk => ⟨.bl b, H, I.kept (t' := tk) fun _ _ z => z, rfl, q⟩
  · cases r with
    | cons rx rr =>
      cases rr with
      | cons rt rr =>
        cases rr
        cases rx
        cases rt
        obtain ⟨_, its, rv, o, h1, h2, n, h3⟩ := (show ObjOk X.prog X.w H s.heap p (.tup cs) from I.hok p _ hp)
        have ei := hc.eq rv
        subst ei
        obtain ⟨oc, od', oda, osl⟩ := o
        dsimp only at h2 h3
        subst h2 h3
        exact PySem.W.kia_tup Z I.kIn J h1 e (fun z => nomatch z) fun tk => ⟨.bl b, H, I.kept (t' := tk) fun _ _ z => z, rfl, q⟩
end
/-! ### own [ ] and [ ] = within a try -/
section
variable {X : Cx} {CX : CXT} {C f : Addr} {fd : FuncData} {ps : List Str} {sp : Sp} {E : L2.St → XK} {n : Nat} {o i e : Expr} {to ti te : TE} {pos pos' : Pos}
def tIxOS (C : Addr) (sp : Sp) (E : L2.St → XK) (to ti : TE) : TE := fun σ H Q => to σ H fun x H1 => ti σ H1 fun y H2 => ∃ a dx fs, x = .ref a ∧ H2 a = some (.ins C dx fs) ∧ sp [.ref a, y] H2 Q (E σ)
theorem pe_ixOS (ho : PE X o to) (hi : PE X i ti) (F : FnOk X.prog X.w X.K X.mg X.base CX n f fd ps sp) (hs : PySem.W.findIn X.K (.ref C) "__getitem__" = some (some (.ref f))) (hf : PySem.W.fnIn X.K f = true) (hfn : PySem.W.isFn X.K (.ref f) = true)
    (hb : Binds X.K fd ps []) (hx : ∀ σ, PassesAt CX X σ (E σ)) (hr : Room (n + 1) X.A) (hsl : ∀ x v, subscripted i true (.ref x) v = runValue (.builtin "lifetime.subscript" ⟨[.ref x, v], []⟩) := by intro _ _; with_unfolding_all rfl) :
    PE X (.Subscript o i pos) (tIxOS C sp E to ti) := by
  refine ⟨fun pins s σ H Q I h => ?_⟩
  refine Subscript_ (thn (ho.run pins s σ H _ I h) fun v s1 ⟨x, H1, I1, r1, q1⟩ => thn (hi.run pins s1 σ H1 _ I1 q1) fun u s2 ⟨y, H2, I2, r2, q2⟩ => ?_)
  obtain ⟨a, dx, fs, rfl, ha, hsp⟩ := q2
  cases r1
  obtain ⟨mA, J, _⟩ := ins_get I2.hok ha
  obtain ⟨od, J, _⟩ := J.look
  obtain ⟨m, hF⟩ := I2.fr
  refine PySem.W.sub_K hF I2.ok.mod.kin J hs hf hfn ?_ (hsl _ _)
  have hl : ([Value.ref a, u] ++ []).length = ps.length := F.len _ _ _ _ hsp
  refine wpAny_call (codeAny_mono (F.run X.A.in1 X.stack s2 H2 ⟨[.ref a, u], []⟩ [.ref a, u] [.ref a, y] Q (E σ) hr.in1 I2.env0.in1 (hb s2 [.ref a, u] I2.kIn hl) (.cons rfl (.cons r2 .nil)) hsp) fun r s' hq => ?_)
  cases r with
  | error e => exact hx σ pins H2 s2 e s' I2 hq
  | ok fl =>
    cases fl with
    | ret u => exact I2.after hq
    | next => exact False.elim hq
    | brk => exact False.elim hq
    | cont => exact False.elim hq
def gSubS (C : Addr) (sp : Sp) (E : L2.St → XK) (to ti : TE) : TG := fun v σ H Q => to σ H fun x H1 => ti σ H1 fun y H2 => ∃ a dx fs, x = .ref a ∧ H2 a = some (.ins C dx fs) ∧ sp [.ref a, y, v] H2 (fun _ H' => Q σ H') (E σ)
theorem pg_subOS (ho : PE X o to) (hi : PE X i ti) (F : FnOk X.prog X.w X.K X.mg X.base CX n f fd ps sp) (hq : PySem.W.noSeq X.K C = true) (hs : PySem.W.findIn X.K (.ref C) "__setitem__" = some (some (.ref f))) (hfn : PySem.W.isFn X.K (.ref f) = true)
    (hb : Binds X.K fd ps []) (hx : ∀ σ, PassesAt CX X σ (E σ)) (hr : Room n X.A)
    (ha : ∀ v, assign (.Subscript o i pos) X.env v = (do
      let ov ← holding [v] (eval o X.env)
      let iv ← holding [v, ov] (eval i X.env)
      standAt pos
      holding [v, ov, iv] (setItem ov iv v)
      release [v, ov, iv] []) := by intro _; rfl) : PG X (.Subscript o i pos) (gSubS C sp E to ti) := by
  refine ⟨fun pins s σ H v u Q I r h => ?_⟩
  rw [ha]
  refine wpAny_bind (wpAny_holding (thn (ho.run pins s σ H _ I h) fun ov s1 ⟨x, H1, I1, r1, q1⟩ => ?_))
  refine wpAny_bind (wpAny_holding (thn (hi.run pins s1 σ H1 _ I1 q1) fun iv s2 ⟨y, H2, I2, r2, q2⟩ => ?_))
  obtain ⟨a, dx, fs, rfl, ha2, hsp⟩ := q2
  cases r1
  obtain ⟨mA, J, _⟩ := ins_get I2.hok ha2
  obtain ⟨od, J, _⟩ := J.look
  obtain ⟨m, hF⟩ := I2.fr
  refine wpAny_bind (wpAny_standAt (wpAny_bind (wpAny_holding (PySem.W.ksp_setItem hF I2.ok.mod.kin J hq hs hfn ?_))))
  refine wpAny_mono (run_fnS (us := [.ref a, iv, u]) (vs := [.ref a, y, v]) (E := E) F hr hb (hx σ) I2 (.cons rfl (.cons r2 (.cons r .nil))) hsp) (fun r s' q => ?_) fun _ _ e => e
  obtain ⟨z, H', I', rz, q⟩ := q
  exact wpAny_release ⟨σ, H', I', q⟩
end
end XL
set_option Elab.async false
set_option linter.all false
set_option maxRecDepth 100000
set_option maxHeartbeats 4000000
/-! XOwnIt: list(o), o an object whose own __iter__ hands on iter(t), t a tuple. -/
namespace XL
open PySem PySem.Spec PyProof.Rows L2
/-- an iterator over the tuple at t, the next place is i -/
def ItT (t it : Addr) (i : Nat) : HO := .ext fun h => IsTupIter h it t i
/-- .. that has ended -/
def ItTE (it : Addr) : HO := .ext fun h => ∃ o, h.get? it = some o
theorem itT_ok {P : Program} {w : World} {H : Hp} {h : Heap} {t it : Addr} {i : Nat} (e : IsTupIter h it t i) : ObjOk P w H h it (ItT t it i) := by
  obtain ⟨o, h1, h2⟩ := e
  exact ⟨⟨o, h1, h2⟩, ⟨_, h1⟩, fun g1 g2 ⟨o', q1, q2⟩ k => ⟨o', k _ q1, q2⟩⟩
theorem itTE_ok {P : Program} {w : World} {H : Hp} {h : Heap} {it : Addr} {o : Obj} (e : h.get? it = some o) : ObjOk P w H h it (ItTE it) := ⟨⟨o, e⟩, ⟨_, e⟩, fun g1 g2 ⟨o', q1⟩ k => ⟨o', k _ q1⟩⟩
section
variable {X : Cx} {pins : List (Addr × Obj)} {σ : L2.St} {H : Hp} {s : Shared}
theorem itT_get {t it : Addr} {i : Nat} (I : Inv X pins σ H s) (e : H it = some (ItT t it i)) : IsTupIter s.heap it t i := (I.hok it _ e).1
theorem call_iter_tup {M : Program} {w : World} {A : Around} {E : Value → Shared → Prop} {s : Shared} {t : Addr} {items : Array Value} {Q : Value → Shared → Prop} (ht : IsTup s.heap t items)
    (h : Q (.ref s.heap.objs.size) { s with heap := s.heap.push { cls := .type "tuple_iterator", data := .fields #[.ref t, .int 0 0] } }) : wpAny (model M w) A (call (.builtin "iter") [.ref t]) Q E s := by
  refine Calls.call_function_entry (by decide +kernel) (by decide +kernel) PySem.W.kdk_entry_iter (PySem.W.kdk_args_iter _) ?_
  unfold Builtin.«iter»
  refine wpAny_bind (m := someArgs "iter" 1 2 _) (wpAny_of_eq (a := [Value.ref t]) (by first | rfl | kernel_rfl!) ?_)
  show wpAny _ _ (pyIter (.ref t) >>= _) _ _ _
  refine wpAny_bind (iter_tuple ht ?_)
  exact wpAny_pure ⟨_, rfl, h⟩
/-- iter(t) -/
def rIterT (K : PySem.W.Frag) : List V → Hp → VK → Prop := fun xs H Q => ∃ (t : Addr) (zs : List V), xs = [.ref t] ∧ SqT K H t zs ∧ ∀ it, H it = none → Q (.ref it) (upd H it (ItT t it 0))
theorem call_iterT : CallR X (.builtin "iter") (rIterT X.K) := by
  intro pins s σ H xs us Q I r h
  obtain ⟨t, zs, rfl, hq, q⟩ := h
  obtain rfl := Vals.ref1 r
  obtain ⟨its, rv, pl, hz⟩ := I.tuple hq
  refine call_iter_tup pl ?_
  exact ⟨.ref s.heap.objs.size, _, I.laid (t' := s.toks) (fun b u e => Heap.get?_push_of_some _ e) (Nat.le_refl _) (itT_ok ⟨_, Heap.get?_push_size _ rfl, rfl, rfl⟩), rfl, q _ (I.hok.fresh (Nat.le_refl _))⟩
theorem call_iterTK (K : PySem.W.Frag) (h : X.K = K := by rfl) : CallR X (.builtin "iter") (rIterT K) := h ▸ call_iterT
theorem sqT_upd {K : PySem.W.Frag} {H : Hp} {t x : Addr} {zs : List V} {o : HO} (h : SqT K H t zs) (hx : ∀ o' xs, H x ≠ some (.tup xs) ∧ H x ≠ some (.frz o' (.tup xs))) : SqT K (upd H x o) t zs := by
  rcases h with (h | ⟨ob, h⟩) | h
  · have ne : t ≠ x := fun z => (hx default zs).1 (by rw [← z]; exact h)
    exact .inl (.inl (by rw [upd_ne ne]; exact h))
  · have ne : t ≠ x := fun z => (hx ob zs).2 (by rw [← z]; exact h)
    exact .inl (.inr ⟨ob, by rw [upd_ne ne]; exact h⟩)
  · exact .inr h
/-- the end of a tuple: the iterator itself stays there -/
theorem next_tup_end {P : Program} {w : World} {A : Around} {E : Value → Shared → Prop} {s : Shared} {it t : Addr} {i : Nat} {items : Array Value} {Q : Option Value → Shared → Prop} (hh : A.handled = none)
    (hit : IsTupIter s.heap it t i) (ht : IsTup s.heap t items) (hx : items[i]? = none)
    (hQ : ∀ h', Heap.ExtBut it s.heap h' → (∃ o, h'.get? it = some o) → Q none { s with heap := h' }) : wpAny (model P w) A (pyNext (.ref it)) Q E s := by
  obtain ⟨o, ho, hc, hd⟩ := id hit
  obtain ⟨ol, hol, _, nl, hdl⟩ := ht
  unfold pyNext
  refine wpAny_bind (wpAny_attempt (wpAny_callSpecial?_slot (name := Str.ofString "__next__") hit.typeIs slot_tupleiter_next (wpAny_call_entry slot_tupleiter_next hit.typeIs entry_tupleiter_next ?_ (args_tupleiter_next _))))
  show wpAny _ _ (field (.ref it) 0 >>= _) _ _ s
  refine wpAny_bind (wpAny_field ho hd (x := .ref t) rfl (PySem.W.KFB.if_not rfl ?_))
  show wpAny _ _ (field (.ref it) 1 >>= _) _ _ s
  refine wpAny_bind (wpAny_field ho hd (x := .int i 0) rfl ?_)
  show wpAny _ _ (seqItems? (.ref t) >>= _) _ _ s
  refine wpAny_bind (wpAny_seqItems hol hdl ?_)
  simp only [Int.toNat_natCast, hx]
  refine wpAny_bind (wpAny_rule (wpAny_bind (wpAny_setField ho hd (by simp) ?_)))
  show wpAny _ _ (newExc (.type "StopIteration") [] >>= _) _ _ _
  refine wpAny_bind ?_
  simp only [newExc, newTuple]
  refine wpAny_bind (wpAny_newObj_type ?_ (by size_fits))
  refine wpAny_bind (m := firstArgMember _ _) (wpAny_of_eq (a := Value.none) (by first | rfl | (simp only [firstArgMember]; rfl)) ?_)
  refine wpAny_newObj_type ?_ (by size_fits)
  simp only [raiseNew]
  refine wpAny_bind (wpAny_handled ?_)
  first | rw [show A.in1.handled = none from hh] | rw [hh]
  refine wpAny_bind (wpAny_pure (wpAny_throw ?_))
  refine wpAny_bind (wpAny_isInstance (T := "StopIteration") (b := true) ⟨_, Heap.get?_push_size _ rfl, rfl⟩ isSubtype_stop ?_)
  exact wpAny_pure (hQ _ (((Heap.SameBut.update ..).extBut.push _).push _) ⟨_, Heap.get?_push_of_some _ (Heap.get?_push_of_some _ (Heap.get?_update_self _ ho (Obj.isFreed_of_fields (Obj.data_mapFields hd _))))⟩)
/-- the loop that fills the list at q -/
theorem loop_tup {A1 : Around} {Rs : Result → Shared → Prop} {q it t : Addr} {zs : List V} (hd : A1.in1.handled = none) (hne : q ≠ it) :
    ∀ (k i : Nat) (H : Hp) (s : Shared), zs.length - i = k → i ≤ zs.length → Inv X pins σ H s → H it = some (ItT t it i) → SqT X.K H t zs → H q = some (.lst (zs.take i)) →
      (∀ s', Inv X pins σ (upd (upd H it (ItTE it)) q (.lst zs)) s' → Rs (.ok (.ret .none)) s') → codeAny (model X.prog X.w) A1 (.builtin "list.extend.loop" ⟨[.ref q, .ref it, .none], []⟩) Rs s := by
  intro k
  induction k with
  | zero =>
    intro i H s hk hi I hit ht hq hR
    obtain ⟨its, rv, pl, hz⟩ := I.tuple ht
    have hin : zs.length = its.length := rv.length
    have mu : Mut (H it) := by rw [hit]; exact True.intro
    refine codeAny_builtin PySem.F.entry_extend_loop ?_
    rw [Around.under_plainId PySem.F.plain_extend_loop _]
    show wpAny _ A1.in1 (pyNext (.ref it) >>= _) _ _ s
    have ei : i = zs.length := by omega
    refine wpAny_bind (next_tup_end hd (itT_get I hit) pl (by rw [List.getElem?_toArray]; exact List.getElem?_eq_none (by omega)) fun h' eb ⟨o, ho⟩ => wpAny_pure ?_)
    have I2 : Inv X pins σ (upd H it (ItTE it)) { s with heap := h' } := I.write (x := it) (e := it) (t' := s.toks) mu (.inl rfl) (fun b o nb z => eb b o nb z) ⟨_, ho⟩ (itTE_ok ho)
    refine hR _ ?_
    have e : upd (upd H it (ItTE it)) q (.lst zs) = upd H it (ItTE it) := by
      funext b
      by_cases hb : b = q
      · rw [hb, upd_same, upd_ne hne, hq, ei, List.take_length]
      · rw [upd_ne hb]
    rw [e]
    exact I2
  | succ k ih =>
    intro i H s hk hi I hit ht hq hR
    obtain ⟨its, rv, pl, hz⟩ := I.tuple ht
    have hin : zs.length = its.length := rv.length
    have mu : Mut (H it) := by rw [hit]; exact True.intro
    have hlt : i < zs.length := by omega
    have hzi := List.getElem?_eq_getElem hlt
    obtain ⟨u, hu, ru⟩ := rv.get hzi
    refine codeAny_builtin PySem.F.entry_extend_loop ?_
    rw [Around.under_plainId PySem.F.plain_extend_loop _]
    show wpAny _ A1.in1 (pyNext (.ref it) >>= _) _ _ s
    refine wpAny_bind (next_tuple_item (itT_get I hit) pl (by rw [List.getElem?_toArray]; exact hu) fun h' hit' sb => ?_)
    obtain ⟨o, ho, _⟩ := id hit'
    have I2 : Inv X pins σ (upd H it (ItT t it (i + 1))) { s with heap := h' } := I.write (x := it) (e := it) (t' := s.toks) mu (.inl rfl) (fun b o nb z => (sb.2 b nb).trans z) ⟨_, ho⟩ (itT_ok hit')
    have hq2 : upd H it (ItT t it (i + 1)) q = some (.lst (zs.take i)) := by rw [upd_ne hne]; exact hq
    show wpAny _ A1.in1 (updateSeq q (·.push u) >>= _) _ _ _
    obtain ⟨z, its2, c, r2, hl, e⟩ := I2.lstM hq2
    have l2 : its2.length ≤ 16777215 := by
      rw [← hl, List.length_take]
      have := hz
      rw [sizeLine_eq] at this
      omega
    refine wpAny_bind (wpAny_updateSeq e rfl (wpAny_pure ⟨plainId_quiet PySem.F.plain_extend_loop _, ?_⟩) (by rw [List.size_toArray, sizeLine_eq]; omega) (by show (its2.toArray.push u).size ≤ sizeLine + 1; rw [Array.size_push, List.size_toArray, sizeLine_eq]; omega))
    have I3 := I2.lset (f := (·.push u)) (its' := its2 ++ [u]) (ys := zs.take i ++ [zs[i]]) (t' := s.toks) hq2 e (by simp) (r2.append (.cons ru .nil)) (by rw [List.length_append, List.length_singleton, List.length_take, sizeLine_eq]; rw [sizeLine_eq] at hz; omega)
    refine ih (i + 1) _ _ (by omega) (by omega) I3 ?_ ?_ ?_ fun s' I4 => hR s' ?_
    · rw [upd_ne (Ne.symm hne), upd_same]
    · exact sqT_upd (sqT_upd ht fun o' xs => ⟨by rw [hit]; exact fun z => (nomatch z), by rw [hit]; exact fun z => (nomatch z)⟩) fun o' xs => ⟨by rw [hq2]; exact fun z => (nomatch z), by rw [hq2]; exact fun z => (nomatch z)⟩
    · rw [upd_same, take_snoc hzi]
    · have e4 : upd (upd (upd (upd H it (ItT t it (i + 1))) q (.lst (zs.take i ++ [zs[i]]))) it (ItTE it)) q (.lst zs) = upd (upd H it (ItTE it)) q (.lst zs) := by
        funext b
        by_cases hb : b = q
        · rw [hb, upd_same, upd_same]
        · rw [upd_ne hb, upd_ne hb]
          by_cases hb2 : b = it
          · rw [hb2, upd_same, upd_same]
          · rw [upd_ne hb2, upd_ne hb2, upd_ne hb, upd_ne hb2]
      rw [← e4]
      exact I4
/-- list(o) -/
def rListIt (K : PySem.W.Frag) (C : Addr) (sp : Sp) (E : XK) : List V → Hp → VK → Prop := fun xs H Q => ∃ a dx fs, xs = [.ref a] ∧ H a = some (.ins C dx fs) ∧
  ∀ q, H q = none → sp [.ref a] (upd H q (.lst [])) (fun v H1 => ∃ (it t : Addr) (zs : List V), v = .ref it ∧ H1 it = some (ItT t it 0) ∧ SqT K H1 t zs ∧ H1 q = some (.lst []) ∧ (∃ dx' fs', H1 a = some (.ins C dx' fs')) ∧ Q (.ref q) (upd (upd H1 it (ItTE it)) q (.lst zs))) E
theorem hint_own {M : Model} {A : Around} {E : Value → Shared → Prop} {s : Shared} {Q : Bool → Shared → Prop} {K : PySem.W.Frag} {C a : Addr} {ox : Obj} {od : Option Obj} (h1 : PySem.W.findIn K (.ref C) "__len__" = some none) (h2 : PySem.W.findIn K (.ref C) "__length_hint__" = some none)
    (hK : K.In s.heap) (J : PySem.W.InstAt s.heap a ox C od) (h : Q true s) : wpAny M A (Builtin.List.listLengthHint (.ref a)) Q E s := by
  unfold Builtin.List.listLengthHint
  refine wpAny_bind (wpAny_bind (J.type.here ((PySem.W.looks_findIn hK h1).here (PySem.W.KFB.if_not rfl (PySem.W.KFB.if_not rfl ?_)))))
  exact wpAny_bind (wpAny_bind (J.type.here ((PySem.W.looks_findIn hK h2).here (wpAny_pure h))))
theorem call_listIt {C f : Addr} {fd : FuncData} {ps : List Str} {sp : Sp} {E : XK} {n : Nat} {CX : CXT} (hs : PySem.W.findIn X.K (.ref C) "__iter__" = some (some (.ref f))) (hfn : PySem.W.isFn X.K (.ref f) = true) (n1 : PySem.W.findIn X.K (.ref C) "__len__" = some none) (n2 : PySem.W.findIn X.K (.ref C) "__length_hint__" = some none)
    (F : FnOk X.prog X.w X.K X.mg X.base CX n f fd ps sp) (hb : Binds X.K fd ps []) (hx : Passes CX X E) (hr : Room (n + 2) X.A) : CallR X (.type "list") (rListIt X.K C sp E) := by
  intro pins s σ H xs us Q I rv h
  obtain ⟨a, dx, fs, rfl, ha, hq⟩ := h
  obtain ⟨u, rfl, ru⟩ := rv.one
  cases ru
  have sb : Sub X n X.A.in1.in1 := (Sub.in1 (Sub.in1 (⟨hr, rfl⟩ : Sub X (n + 2) X.A)))
  refine callType_codes (Q₁ := fun obj s₁ => obj = .ref s.heap.objs.size ∧ s₁ = { s with heap := s.heap.push { cls := .type "list", data := .seq #[] } }) PySem.F.called_list (PySem.F.typeCall_list_1 _) PySem.F.entry_list_init
    (code_list_new _ ⟨rfl, rfl⟩) fun obj s₁ h₁ => ?_
  obtain ⟨rfl, rfl⟩ := h₁
  have hS : (s.heap.push { cls := .type "list", data := .seq #[] }).get? s.heap.objs.size = some { cls := .type "list", data := .seq #[] } := Heap.get?_push_size _ rfl
  refine ⟨⟨_, hS, rfl⟩, PySem.F.args_list_init_2 _ _, ?_⟩
  have fr : H s.heap.objs.size = none := I.hok.fresh (Nat.le_refl _)
  have hsp := hq _ fr
  have I1 : Inv X pins σ (upd H s.heap.objs.size (.lst [])) { s with heap := s.heap.push { cls := .type "list", data := .seq #[] } } := I.lnew (its := []) (t' := s.toks) .nil (Nat.zero_le _)
  show wpAny _ _ (do let old ← Builtin.List.listItems (.ref s.heap.objs.size); Builtin.List.listUpdate (.ref s.heap.objs.size) (fun _ => #[]); letGo old.toList.reverse; Builtin.List.listExtendWith (.ref s.heap.objs.size) (.ref a) .none) _ _ _
  refine wpAny_bind ?_
  unfold Builtin.List.listItems
  refine wpAny_bind (wpAny_seqItems hS rfl (wpAny_pure ?_))
  show wpAny _ _ (updateSeq s.heap.objs.size (fun _ => #[]) >>= fun _ => letGo (#[] : Array Value).toList.reverse >>= fun _ => Builtin.List.listExtendWith (.ref s.heap.objs.size) (.ref a) .none) _ _ _
  refine wpAny_bind (wpAny_updateSeq hS rfl ?_)
  have I2 := I1.lset (f := fun _ => #[]) (its := []) (its' := []) (ys := []) (t' := s.toks) upd_same hS rfl .nil (Nat.zero_le _)
  rw [upd_upd] at I2
  refine wpAny_bind (wpAny_letGo ?_)
  have ha2 : upd H s.heap.objs.size (.lst []) a = some (.ins C dx fs) := by rw [upd_ne (ne_of_none ha fr)]; exact ha
  have hne : s.heap.objs.size ≠ a := Ne.symm (ne_of_none ha fr)
  generalize hH2 : upd H s.heap.objs.size (.lst []) = H2 at *
  generalize s.heap.objs.size = q at *
  obtain ⟨mA, J, _⟩ := ins_get I2.hok ha2
  obtain ⟨od, J, _⟩ := J.look
  obtain ⟨m0, hF⟩ := I2.fr
  unfold Builtin.List.listExtendWith
  refine wpAny_bind (J.type.here ?_)
  have h1 : Builtin.List.listSameRef (.ref q) (.ref a) = false := by simp [Builtin.List.listSameRef, hne]
  have h2 : (Value.ref C == Value.type "list") = false := rfl
  have h3 : (Value.ref C == Value.type "tuple") = false := rfl
  simp only [h1, h2, h3, Bool.or_false, Bool.false_eq_true, if_false]
  refine wpAny_bind (PySem.W.owit_iter hF I2.ok.mod.kin J hs hfn ?_)
  have e0 : ∀ {s : Shared} {H : Hp}, Inv X pins σ H s → Env0 X.prog X.w X.K X.mg X.base X.A.in1.in1 X.stack s H := fun {s H} I => by
    have e := I.env0
    exact ⟨by rw [sb.fr]; exact e.frames, e.mod, e.bs, e.bsz, e.funs, e.frf, e.hok, e.bare⟩
  have hl := F.len _ _ _ _ hsp
  have r2 : Vals [V.ref a] [Value.ref a] := .cons rfl .nil
  refine wpAny_call (codeAny_mono (F.run X.A.in1.in1 X.stack _ _ ⟨[.ref a], []⟩ [.ref a] [.ref a] _ E sb.room (e0 I2) (by
    have := hb _ [.ref a] I2.kIn (by simpa using hl)
    simpa using this) r2 hsp) fun r s' hq' => ?_)
  cases r with
  | error e => exact hx pins σ _ _ e s' I2 hq'
  | ok fl =>
    cases fl with
    | next => exact False.elim hq'
    | brk => exact False.elim hq'
    | cont => exact False.elim hq'
    | ret u =>
      obtain ⟨v, H', I', rv, it, t, zs, ev, hit, ht, hqq, ⟨dx', fs', ha'⟩, hQ⟩ := I2.after hq'
      subst ev
      cases rv
      have hT : s'.TypeIs (.ref it) "tuple_iterator" := (itT_get I' hit).typeIs
      have hqi : q ≠ it := fun z => by
        rw [z, hit] at hqq
        exact (nomatch hqq)
      show wpAny _ _ (specialOf (.ref it) "__next__") _ _ _
      refine wpAny_specialOf hT slot_tupleiter_next.lookup ?_
      obtain ⟨mA', J', _⟩ := ins_get I'.hok ha'
      obtain ⟨od', J', _⟩ := J'.look
      refine wpAny_bind (wpAny_holding (hint_own n1 n2 I'.kIn J' ?_))
      have go : ∀ s'', Inv X pins σ H' s'' → codeAny (model X.prog X.w) X.A.in1 (.builtin "list.extend.loop" ⟨[.ref q, .ref it, .none], []⟩) (wants (fun r s₂ => r = .none ∧ EP X pins σ Q (.ref q) s₂) X.xe) s'' := fun s'' I'' =>
        loop_tup (t := t) (zs := zs) sb.room.hd hqi zs.length 0 H' s'' (by simp) (Nat.zero_le _) I'' hit ht (by rw [hqq]; rfl) fun s3 I3 => ⟨rfl, .ref q, _, I3, rfl, hQ⟩
      obtain ⟨z, its, k, r3, hl3, e3⟩ := I'.lstM hqq
      cases r3
      refine wpAny_ite_split (fun _ => ?_) (fun _ => wpAny_pure ⟨plainId_quiet PySem.F.plain_extend_loop _, go s' I'⟩)
      refine wpAny_bind (wpAny_rule ?_)
      refine wpAny_bind ?_
      show wpAny _ _ (updateSeq q (·.push .none) >>= fun _ => updateSeq q (·.pop)) _ _ _
      refine wpAny_bind (wpAny_updateSeq e3 rfl ?_)
      have I3 := I'.lset (f := (·.push Value.none)) (its' := [Value.none]) (ys := [.non]) (t' := s'.toks) hqq e3 (by simp) (.cons rfl .nil) (by rw [List.length_singleton, sizeLine_eq]; decide)
      obtain ⟨z4, its4, k4, r4, hl4, e4⟩ := I3.lstM upd_same
      obtain ⟨u4, rfl, ru4⟩ := r4.one
      refine wpAny_updateSeq e4 rfl ?_ (by show 1 ≤ sizeLine; rw [sizeLine_eq]; decide) (by show 0 ≤ sizeLine + 1; exact Nat.zero_le _)
      have I4 := I3.lset (f := (·.pop)) (its := [u4]) (its' := []) (ys := []) (t' := s'.toks) upd_same e4 (by rfl) .nil (Nat.zero_le _)
      rw [upd_upd] at I4
      have hH : upd H' q (.lst []) = H' := by
        funext b
        by_cases hb : b = q
        · rw [hb, upd_same, hqq]
        · rw [upd_ne hb]
      rw [hH] at I4
      exact wpAny_pure ⟨plainId_quiet PySem.F.plain_extend_loop _, go _ I4⟩
end
end XL
set_option Elab.async false
set_option linter.all false
set_option maxRecDepth 100000
set_option maxHeartbeats 4000000
/-! XOr: two rules for one piece of text; what classes say of an own error. -/
namespace XL
open PySem PySem.Spec PyProof.Rows L2
section
variable {X : Cx}
theorem pe_or {e : Expr} {t u : TE} (h : PE X e t) (k : PE X e u) : PE X e (fun σ H Q => t σ H Q ∨ u σ H Q) := ⟨fun pins s σ H Q I q => q.elim (h.run pins s σ H Q I) (k.run pins s σ H Q I)⟩
theorem pg_or {e : Expr} {t u : TG} (h : PG X e t) (k : PG X e u) : PG X e (fun v σ H Q => t v σ H Q ∨ u v σ H Q) := ⟨fun pins s σ H v w Q I r q => q.elim (h.run pins s σ H v w Q I r) (k.run pins s σ H v w Q I r)⟩
theorem cr_or {f : Value} {t u : List V → Hp → VK → Prop} (h : CallR X f t) (k : CallR X f u) : CallR X f (fun xs H Q => t xs H Q ∨ u xs H Q) := fun pins s σ H xs us Q I r q => q.elim (h pins s σ H xs us Q I r) (k pins s σ H xs us Q I r)
end
section
variable {P : Program} {w : World} {K : PySem.W.Frag} {mg : Str → Option Value} {base : Heap} {CX : CXT} {k : Nat} {f : Addr} {fd : FuncData} {ps : List Str} {sp sq : Sp}
theorem fn_or (h : FnOk P w K mg base CX k f fd ps sp) (h2 : FnOk P w K mg base CX k f fd ps sq) : FnOk P w K mg base CX k f fd ps (fun vs H Q E => sp vs H Q E ∨ sq vs H Q E) :=
  ⟨fun vs H Q E q => q.elim (h.len vs H Q E) (h2.len vs H Q E), fun A outer s H args us vs Q E hr he hb hv q => q.elim (h.run A outer s H args us vs Q E hr he hb hv) (h2.run A outer s H args us vs Q E hr he hb hv)⟩
end
theorem kit_of {K : PySem.W.Frag} {D C : Addr} {b : Bool} (hne : (Value.ref D == Value.ref C) = false) (h2 : PySem.W.isClsIn K C = true) (h3 : PySem.W.typeIn K (.ref C) = some (.type "type")) (h4 : PySem.W.subIn K (.ref D) (.ref C) = some b) : PySem.W.kitOne K (.ref D) (.ref C) = some b := by
  have e2 : ((PySem.W.clsIn K C).isSome && PySem.W.typeIn K (.ref C) == some (.type "type")) = true := by
    have h2' : (PySem.W.clsIn K C).isSome = true := h2
    rw [h2', h3]
    rfl
  show (if (Value.ref D == Value.ref C) = true then some true else (if ((PySem.W.clsIn K C).isSome && PySem.W.typeIn K (.ref C) == some (.type "type")) = true then PySem.W.subIn K (.ref D) (.ref C) else none)) = some b
  rw [if_neg (by rw [hne]; decide), if_pos e2]
  exact h4
theorem exm_of {K : PySem.W.Frag} {S : Addr} {cls : Value} {b : Bool} (h1 : PySem.W.subIn K (.ref S) (.type "BaseException") = some true) (h2 : PySem.W.isClsIn K S = true) (h3 : PySem.W.typeIn K (.ref S) = some (.type "type")) (h4 : PySem.W.subIn K cls (.ref S) = some b) : PySem.W.exmOne K cls (.ref S) = some b := by
  have e1 : (PySem.W.subIn K (.ref S) (.type "BaseException") == some true) = true := by rw [h1] <;> rfl
  have e2 : ((PySem.W.clsIn K S).isSome && PySem.W.typeIn K (.ref S) == some (.type "type")) = true := by
    have h2' : (PySem.W.clsIn K S).isSome = true := h2
    rw [h2', h3] <;> rfl
  show (if (PySem.W.subIn K (.ref S) (.type "BaseException") == some true) = true then (if ((PySem.W.clsIn K S).isSome && PySem.W.typeIn K (.ref S) == some (.type "type")) = true then PySem.W.subIn K cls (.ref S) else none) else none) = some b
  rw [if_pos e1, if_pos e2]
  exact h4
end XL
set_option Elab.async false
set_option linter.all false
set_option maxRecDepth 100000
set_option maxHeartbeats 4000000
namespace K26
open PySem PySem.Spec PyProof.Rows L2 XL
def topS (i : Nat) : Stmt := PySem.Challenge.pw_drawnanew_k26_known_numbers.main.body.getD i (.Pass ⟨0, 0, 0, 0⟩)
abbrev s_is_name : Stmt := topS 8
theorem sc_is_name : FnScope ["thing", "sign"] ["thing"] (defScope s_is_name) := ⟨rfl, rfl, rfl, by decide +kernel, rfl, by decide +kernel, by decide +kernel⟩
abbrev s_is_number : Stmt := topS 9
theorem sc_is_number : FnScope ["thing", "low", "high"] ["thing", "low", "high"] (defScope s_is_number) := ⟨rfl, rfl, rfl, by decide +kernel, rfl, by decide +kernel, by decide +kernel⟩
abbrev s_is_part : Stmt := topS 13
theorem sc_is_part : FnScope ["part"] ["part"] (defScope s_is_part) := ⟨rfl, rfl, rfl, by decide +kernel, rfl, by decide +kernel, by decide +kernel⟩
abbrev s_check_form : Stmt := topS 14
theorem sc_check_form : FnScope ["parts", "waiting", "deepest", "part", "level", "at"] ["parts"] (defScope s_check_form) := ⟨rfl, rfl, rfl, by decide +kernel, rfl, by decide +kernel, by decide +kernel⟩
abbrev s_value_of : Stmt := topS 15
theorem sc_value_of : FnScope ["parts", "values", "first", "second"] ["parts", "values"] (defScope s_value_of) := ⟨rfl, rfl, rfl, by decide +kernel, rfl, by decide +kernel, by decide +kernel⟩
abbrev s_names_of : Stmt := topS 16
theorem sc_names_of : FnScope ["parts", "found", "piece", "told"] ["parts"] (defScope s_names_of) := ⟨rfl, rfl, rfl, by decide +kernel, rfl, by decide +kernel, by decide +kernel⟩
abbrev s_check_row : Stmt := topS 19
theorem sc_check_row : FnScope ["row", "seen", "item"] ["row"] (defScope s_check_row) := ⟨rfl, rfl, rfl, by decide +kernel, rfl, by decide +kernel, by decide +kernel⟩
abbrev s_idents_of : Stmt := topS 20
theorem sc_idents_of : FnScope ["parts", "row", "values", "idents", "place", "value"] ["parts", "row"] (defScope s_idents_of) := ⟨rfl, rfl, rfl, by decide +kernel, rfl, by decide +kernel, by decide +kernel⟩
abbrev s_at_most : Stmt := topS 21
theorem sc_at_most : FnScope ["first", "second", "found", "item", "place", "value", "mine"] ["first", "second"] (defScope s_at_most) := ⟨rfl, rfl, rfl, by decide +kernel, rfl, by decide +kernel, by decide +kernel⟩
abbrev s_Key_init : Stmt := inClass (topS 22) 0
theorem sc_Key_init : FnScope ["self", "form", "name"] ["self", "form"] (defScope s_Key_init) := ⟨rfl, rfl, rfl, by decide +kernel, rfl, by decide +kernel, by decide +kernel⟩
abbrev s_Key_parts : Stmt := inClass (topS 22) 1
theorem sc_Key_parts : FnScope ["self"] ["self"] (defScope s_Key_parts) := ⟨rfl, rfl, rfl, by decide +kernel, rfl, by decide +kernel, by decide +kernel⟩
abbrev s_Key_call : Stmt := inClass (topS 22) 2
theorem sc_Key_call : FnScope ["self", "item", "at"] ["self", "item", "at"] (defScope s_Key_call) := ⟨rfl, rfl, rfl, by decide +kernel, rfl, by decide +kernel, by decide +kernel⟩
abbrev s_Key_le : Stmt := inClass (topS 22) 3
theorem sc_Key_le : FnScope ["self", "other"] ["self", "other"] (defScope s_Key_le) := ⟨rfl, rfl, rfl, by decide +kernel, rfl, by decide +kernel, by decide +kernel⟩
abbrev s_Key_idents : Stmt := inClass (topS 22) 4
theorem sc_Key_idents : FnScope ["self", "row"] ["self", "row"] (defScope s_Key_idents) := ⟨rfl, rfl, rfl, by decide +kernel, rfl, by decide +kernel, by decide +kernel⟩
abbrev s_Known_init : Stmt := inClass (topS 24) 0
theorem sc_Known_init : FnScope ["self", "key", "row", "ident"] ["self", "key", "row"] (defScope s_Known_init) := ⟨rfl, rfl, rfl, by decide +kernel, rfl, by decide +kernel, by decide +kernel⟩
abbrev s_Known_iter : Stmt := inClass (topS 24) 1
theorem sc_Known_iter : FnScope ["self"] ["self"] (defScope s_Known_iter) := ⟨rfl, rfl, rfl, by decide +kernel, rfl, by decide +kernel, by decide +kernel⟩
abbrev s_Known_getitem : Stmt := inClass (topS 24) 2
theorem sc_Known_getitem : FnScope ["self", "item"] ["self", "item"] (defScope s_Known_getitem) := ⟨rfl, rfl, rfl, by decide +kernel, rfl, by decide +kernel, by decide +kernel⟩
abbrev s_Known_setitem : Stmt := inClass (topS 24) 3
theorem sc_Known_setitem : FnScope ["self", "item", "number"] ["self", "item", "number"] (defScope s_Known_setitem) := ⟨rfl, rfl, rfl, by decide +kernel, rfl, by decide +kernel, by decide +kernel⟩
abbrev s_Known_show : Stmt := inClass (topS 24) 4
theorem sc_Known_show : FnScope ["self", "row", "idents", "numbers", "ident"] ["self", "row"] (defScope s_Known_show) := ⟨rfl, rfl, rfl, by decide +kernel, rfl, by decide +kernel, by decide +kernel⟩
abbrev s_Things_init : Stmt := inClass (topS 25) 0
theorem sc_Things_init : FnScope ["self", "row", "item"] ["self", "row"] (defScope s_Things_init) := ⟨rfl, rfl, rfl, by decide +kernel, rfl, by decide +kernel, by decide +kernel⟩
abbrev s_Things_iter : Stmt := inClass (topS 25) 1
theorem sc_Things_iter : FnScope ["self"] ["self"] (defScope s_Things_iter) := ⟨rfl, rfl, rfl, by decide +kernel, rfl, by decide +kernel, by decide +kernel⟩
abbrev s_Things_getitem : Stmt := inClass (topS 25) 2
theorem sc_Things_getitem : FnScope ["self", "item"] ["self", "item"] (defScope s_Things_getitem) := ⟨rfl, rfl, rfl, by decide +kernel, rfl, by decide +kernel, by decide +kernel⟩
abbrev s_Things_setitem : Stmt := inClass (topS 25) 3
theorem sc_Things_setitem : FnScope ["self", "item", "number"] ["self", "item", "number"] (defScope s_Things_setitem) := ⟨rfl, rfl, rfl, by decide +kernel, rfl, by decide +kernel, by decide +kernel⟩
abbrev s_Things_show : Stmt := inClass (topS 25) 4
theorem sc_Things_show : FnScope ["self", "row", "numbers", "item"] ["self", "row"] (defScope s_Things_show) := ⟨rfl, rfl, rfl, by decide +kernel, rfl, by decide +kernel, by decide +kernel⟩
abbrev s_mixed : Stmt := topS 27
theorem sc_mixed : FnScope ["_law_number_here", "_law_turn", "_law_first", "_law_second"] ["_law_number_here", "_law_turn"] (defScope s_mixed) := ⟨rfl, rfl, rfl, by decide +kernel, rfl, by decide +kernel, by decide +kernel⟩
abbrev s_bag : Stmt := topS 28
theorem sc_bag : FnScope ["_law_script", "_law_cell", "_law_numbers", "_law_seed", "_law_at"] ["_law_script"] (defScope s_bag) := ⟨rfl, rfl, rfl, by decide +kernel, rfl, by decide +kernel, by decide +kernel⟩
abbrev s_pick : Stmt := topS 29
theorem sc_pick : FnScope ["_law_bag_here", "_law_many", "_law_turn", "_law_cell", "_law_worth"] ["_law_bag_here", "_law_many"] (defScope s_pick) := ⟨rfl, rfl, rfl, by decide +kernel, rfl, by decide +kernel, by decide +kernel⟩
abbrev s_choice : Stmt := topS 30
theorem sc_choice : FnScope ["_law_bag_here", "_law_things"] ["_law_bag_here", "_law_things"] (defScope s_choice) := ⟨rfl, rfl, rfl, by decide +kernel, rfl, by decide +kernel, by decide +kernel⟩
abbrev s_mingled : Stmt := topS 31
theorem sc_mingled : FnScope ["_law_bag_here", "_law_things", "_law_left", "_law_out", "_law_step_here"] ["_law_bag_here", "_law_things"] (defScope s_mingled) := ⟨rfl, rfl, rfl, by decide +kernel, rfl, by decide +kernel, by decide +kernel⟩
abbrev s_number : Stmt := topS 32
theorem sc_number : FnScope ["_law_thing"] ["_law_thing"] (defScope s_number) := ⟨rfl, rfl, rfl, by decide +kernel, rfl, by decide +kernel, by decide +kernel⟩
abbrev s_form : Stmt := topS 33
theorem sc_form : FnScope ["_law_bag_here", "_law_readable", "_law_levels", "_law_way", "_law_first", "_law_second"] ["_law_bag_here", "_law_readable", "_law_levels"] (defScope s_form) := ⟨rfl, rfl, rfl, by decide +kernel, rfl, by decide +kernel, by decide +kernel⟩
abbrev s_value : Stmt := topS 34
theorem sc_value : FnScope ["_law_form_here", "_law_worths", "_law_word", "_law_first", "_law_second"] ["_law_form_here", "_law_worths"] (defScope s_value) := ⟨rfl, rfl, rfl, by decide +kernel, rfl, by decide +kernel, by decide +kernel⟩
abbrev s_idents : Stmt := topS 35
theorem sc_idents : FnScope ["_law_key", "_law_row_here", "_law_out", "_law_at", "_law_item", "_law_worth", "_law_told"] ["_law_key", "_law_row_here"] (defScope s_idents) := ⟨rfl, rfl, rfl, by decide +kernel, rfl, by decide +kernel, by decide +kernel⟩
abbrev s_row : Stmt := topS 36
theorem sc_row : FnScope ["_law_bag_here", "_law_most", "_law_items"] ["_law_bag_here", "_law_most"] (defScope s_row) := ⟨rfl, rfl, rfl, by decide +kernel, rfl, by decide +kernel, by decide +kernel⟩
abbrev s_any_key : Stmt := topS 37
theorem sc_any_key : FnScope ["_law_bag_here", "_law_way", "_law_worth", "_law_spot", "_law_item"] ["_law_bag_here"] (defScope s_any_key) := ⟨rfl, rfl, rfl, by decide +kernel, rfl, by decide +kernel, by decide +kernel⟩
abbrev s_changed : Stmt := topS 38
theorem sc_changed : FnScope ["_law_bag_here", "_law_row_here", "_law_items", "_law_spare", "_law_way", "_law_item"] ["_law_bag_here", "_law_row_here"] (defScope s_changed) := ⟨rfl, rfl, rfl, by decide +kernel, rfl, by decide +kernel, by decide +kernel⟩
abbrev s_rows_shown : Stmt := topS 39
theorem sc_rows_shown : FnScope ["_law_bag_here", "_law_rows", "_law_way", "_law_step_here", "_law_old"] ["_law_bag_here"] (defScope s_rows_shown) := ⟨rfl, rfl, rfl, by decide +kernel, rfl, by decide +kernel, by decide +kernel⟩
abbrev s_known_by : Stmt := topS 40
theorem sc_known_by : FnScope ["_law_form_here", "_law_row_here"] ["_law_form_here", "_law_row_here"] (defScope s_known_by) := ⟨rfl, rfl, rfl, by decide +kernel, rfl, by decide +kernel, by decide +kernel⟩
abbrev s_shows : Stmt := topS 41
theorem sc_shows : FnScope ["_law_model", "_law_row_here", "_law_numbers", "_law_mark"] ["_law_model", "_law_row_here"] (defScope s_shows) := ⟨rfl, rfl, rfl, by decide +kernel, rfl, by decide +kernel, by decide +kernel⟩
abbrev s_agrees : Stmt := topS 42
theorem sc_agrees : FnScope ["_law_box", "_law_model", "_law_marks", "_law_at", "_law_told"] ["_law_box", "_law_model"] (defScope s_agrees) := ⟨rfl, rfl, rfl, by decide +kernel, rfl, by decide +kernel, by decide +kernel⟩
abbrev s_not_read : Stmt := topS 43
theorem sc_not_read : FnScope ["_law_box", "_law_item", "_law_told", "e"] ["_law_box", "_law_item"] (defScope s_not_read) := ⟨rfl, rfl, rfl, by decide +kernel, rfl, by decide +kernel, by decide +kernel⟩
abbrev s_not_set : Stmt := topS 44
theorem sc_not_set : FnScope ["_law_box", "_law_item", "e"] ["_law_box", "_law_item"] (defScope s_not_set) := ⟨rfl, rfl, rfl, by decide +kernel, rfl, by decide +kernel, by decide +kernel⟩
abbrev s_step : Stmt := topS 45
theorem sc_step : FnScope ["_law_bag_here", "_law_box", "_law_model", "_law_rows", "_law_way", "_law_row_here", "_law_shown", "_law_at", "_law_number_here", "_law_numbers", "_law_item", "_law_missing"] ["_law_bag_here", "_law_box", "_law_model", "_law_rows"] (defScope s_step) := ⟨rfl, rfl, rfl, by decide +kernel, rfl, by decide +kernel, by decide +kernel⟩
abbrev s_law : Stmt := topS 46
theorem sc_law : FnScope ["_law_script", "_law_bag_here", "_law_forms", "_law_rows", "_law_starts", "_law_boxes", "_law_models", "_law_which", "_law_step_here", "_law_other", "_law_form_here"] ["_law_script"] (defScope s_law) := ⟨rfl, rfl, rfl, by decide +kernel, rfl, by decide +kernel, by decide +kernel⟩
abbrev s_NoItem_init : Stmt := inClass (topS 5) 0
/-- what the top leaves -/
structure Top (K : PySem.W.Frag) (mg : Str → Option Value) (W : World) where
  m_NotImplemented : mg "NotImplemented" = none
  m_abs : mg "abs" = none
  m_all : mg "all" = none
  m_bool : mg "bool" = none
  m_enumerate : mg "enumerate" = none
  m_int : mg "int" = none
  m_isinstance : mg "isinstance" = none
  m_iter : mg "iter" = none
  m_len : mg "len" = none
  m_list : mg "list" = none
  m_range : mg "range" = none
  m_str : mg "str" = none
  m_tuple : mg "tuple" = none
  v_LETTERS : ∃ t, mg "LETTERS" = some (.str "abcdefghijklmnopqrstuvwxyz" t)
  v_MOST_LEVELS : ∃ t, mg "MOST_LEVELS" = some (.int 5 t)
  v_MOST_ITEMS : ∃ t, mg "MOST_ITEMS" = some (.int 5 t)
  a_is_name : Addr
  d_is_name : FuncData
  F_is_name : Fun K "is_name" "is_name" s_is_name a_is_name d_is_name
  b_is_name : Binds K d_is_name ["thing"] []
  g_is_name : mg "is_name" = some (.ref a_is_name)
  a_is_number : Addr
  d_is_number : FuncData
  F_is_number : Fun K "is_number" "is_number" s_is_number a_is_number d_is_number
  b_is_number : Binds K d_is_number ["thing", "low", "high"] []
  g_is_number : mg "is_number" = some (.ref a_is_number)
  a_is_part : Addr
  d_is_part : FuncData
  F_is_part : Fun K "is_part" "is_part" s_is_part a_is_part d_is_part
  b_is_part : Binds K d_is_part ["part"] []
  g_is_part : mg "is_part" = some (.ref a_is_part)
  a_check_form : Addr
  d_check_form : FuncData
  F_check_form : Fun K "check_form" "check_form" s_check_form a_check_form d_check_form
  b_check_form : Binds K d_check_form ["parts"] []
  g_check_form : mg "check_form" = some (.ref a_check_form)
  a_value_of : Addr
  d_value_of : FuncData
  F_value_of : Fun K "value_of" "value_of" s_value_of a_value_of d_value_of
  b_value_of : Binds K d_value_of ["parts", "values"] []
  g_value_of : mg "value_of" = some (.ref a_value_of)
  a_names_of : Addr
  d_names_of : FuncData
  F_names_of : Fun K "names_of" "names_of" s_names_of a_names_of d_names_of
  b_names_of : Binds K d_names_of ["parts"] []
  g_names_of : mg "names_of" = some (.ref a_names_of)
  a_check_row : Addr
  d_check_row : FuncData
  F_check_row : Fun K "check_row" "check_row" s_check_row a_check_row d_check_row
  b_check_row : Binds K d_check_row ["row"] []
  g_check_row : mg "check_row" = some (.ref a_check_row)
  a_idents_of : Addr
  d_idents_of : FuncData
  F_idents_of : Fun K "idents_of" "idents_of" s_idents_of a_idents_of d_idents_of
  b_idents_of : Binds K d_idents_of ["parts", "row"] []
  g_idents_of : mg "idents_of" = some (.ref a_idents_of)
  a_at_most : Addr
  d_at_most : FuncData
  F_at_most : Fun K "at_most" "at_most" s_at_most a_at_most d_at_most
  b_at_most : Binds K d_at_most ["first", "second"] []
  g_at_most : mg "at_most" = some (.ref a_at_most)
  a_Key_init : Addr
  d_Key_init : FuncData
  F_Key_init : Fun K "__init__" "Key.__init__" s_Key_init a_Key_init d_Key_init
  b_Key_init : Binds K d_Key_init ["self", "form"] []
  a_Key_parts : Addr
  d_Key_parts : FuncData
  F_Key_parts : Fun K "parts" "Key.parts" s_Key_parts a_Key_parts d_Key_parts
  b_Key_parts : Binds K d_Key_parts ["self"] []
  a_Key_call : Addr
  d_Key_call : FuncData
  F_Key_call : Fun K "__call__" "Key.__call__" s_Key_call a_Key_call d_Key_call
  b_Key_call : Binds K d_Key_call ["self", "item", "at"] []
  a_Key_le : Addr
  d_Key_le : FuncData
  F_Key_le : Fun K "__le__" "Key.__le__" s_Key_le a_Key_le d_Key_le
  b_Key_le : Binds K d_Key_le ["self", "other"] []
  a_Key_idents : Addr
  d_Key_idents : FuncData
  F_Key_idents : Fun K "idents" "Key.idents" s_Key_idents a_Key_idents d_Key_idents
  b_Key_idents : Binds K d_Key_idents ["self", "row"] []
  a_Known_init : Addr
  d_Known_init : FuncData
  F_Known_init : Fun K "__init__" "Known.__init__" s_Known_init a_Known_init d_Known_init
  b_Known_init : Binds K d_Known_init ["self", "key", "row"] []
  a_Known_iter : Addr
  d_Known_iter : FuncData
  F_Known_iter : Fun K "__iter__" "Known.__iter__" s_Known_iter a_Known_iter d_Known_iter
  b_Known_iter : Binds K d_Known_iter ["self"] []
  a_Known_getitem : Addr
  d_Known_getitem : FuncData
  F_Known_getitem : Fun K "__getitem__" "Known.__getitem__" s_Known_getitem a_Known_getitem d_Known_getitem
  b_Known_getitem : Binds K d_Known_getitem ["self", "item"] []
  a_Known_setitem : Addr
  d_Known_setitem : FuncData
  F_Known_setitem : Fun K "__setitem__" "Known.__setitem__" s_Known_setitem a_Known_setitem d_Known_setitem
  b_Known_setitem : Binds K d_Known_setitem ["self", "item", "number"] []
  a_Known_show : Addr
  d_Known_show : FuncData
  F_Known_show : Fun K "show" "Known.show" s_Known_show a_Known_show d_Known_show
  b_Known_show : Binds K d_Known_show ["self", "row"] []
  a_Things_init : Addr
  d_Things_init : FuncData
  F_Things_init : Fun K "__init__" "Things.__init__" s_Things_init a_Things_init d_Things_init
  b_Things_init : Binds K d_Things_init ["self", "row"] []
  a_Things_iter : Addr
  d_Things_iter : FuncData
  F_Things_iter : Fun K "__iter__" "Things.__iter__" s_Things_iter a_Things_iter d_Things_iter
  b_Things_iter : Binds K d_Things_iter ["self"] []
  a_Things_getitem : Addr
  d_Things_getitem : FuncData
  F_Things_getitem : Fun K "__getitem__" "Things.__getitem__" s_Things_getitem a_Things_getitem d_Things_getitem
  b_Things_getitem : Binds K d_Things_getitem ["self", "item"] []
  a_Things_setitem : Addr
  d_Things_setitem : FuncData
  F_Things_setitem : Fun K "__setitem__" "Things.__setitem__" s_Things_setitem a_Things_setitem d_Things_setitem
  b_Things_setitem : Binds K d_Things_setitem ["self", "item", "number"] []
  a_Things_show : Addr
  d_Things_show : FuncData
  F_Things_show : Fun K "show" "Things.show" s_Things_show a_Things_show d_Things_show
  b_Things_show : Binds K d_Things_show ["self", "row"] []
  a_mixed : Addr
  d_mixed : FuncData
  F_mixed : Fun K "_law_mixed" "_law_mixed" s_mixed a_mixed d_mixed
  b_mixed : Binds K d_mixed ["_law_number_here", "_law_turn"] []
  g_mixed : mg "_law_mixed" = some (.ref a_mixed)
  a_bag : Addr
  d_bag : FuncData
  F_bag : Fun K "_law_bag" "_law_bag" s_bag a_bag d_bag
  b_bag : Binds K d_bag ["_law_script"] []
  g_bag : mg "_law_bag" = some (.ref a_bag)
  a_pick : Addr
  d_pick : FuncData
  F_pick : Fun K "_law_pick" "_law_pick" s_pick a_pick d_pick
  b_pick : Binds K d_pick ["_law_bag_here", "_law_many"] []
  g_pick : mg "_law_pick" = some (.ref a_pick)
  a_choice : Addr
  d_choice : FuncData
  F_choice : Fun K "_law_choice" "_law_choice" s_choice a_choice d_choice
  b_choice : Binds K d_choice ["_law_bag_here", "_law_things"] []
  g_choice : mg "_law_choice" = some (.ref a_choice)
  a_mingled : Addr
  d_mingled : FuncData
  F_mingled : Fun K "_law_mingled" "_law_mingled" s_mingled a_mingled d_mingled
  b_mingled : Binds K d_mingled ["_law_bag_here", "_law_things"] []
  g_mingled : mg "_law_mingled" = some (.ref a_mingled)
  a_number : Addr
  d_number : FuncData
  F_number : Fun K "_law_number" "_law_number" s_number a_number d_number
  b_number : Binds K d_number ["_law_thing"] []
  g_number : mg "_law_number" = some (.ref a_number)
  a_form : Addr
  d_form : FuncData
  F_form : Fun K "_law_form" "_law_form" s_form a_form d_form
  b_form : Binds K d_form ["_law_bag_here", "_law_readable", "_law_levels"] []
  g_form : mg "_law_form" = some (.ref a_form)
  a_value : Addr
  d_value : FuncData
  F_value : Fun K "_law_value" "_law_value" s_value a_value d_value
  b_value : Binds K d_value ["_law_form_here", "_law_worths"] []
  g_value : mg "_law_value" = some (.ref a_value)
  a_idents : Addr
  d_idents : FuncData
  F_idents : Fun K "_law_idents" "_law_idents" s_idents a_idents d_idents
  b_idents : Binds K d_idents ["_law_key", "_law_row_here"] []
  g_idents : mg "_law_idents" = some (.ref a_idents)
  a_row : Addr
  d_row : FuncData
  F_row : Fun K "_law_row" "_law_row" s_row a_row d_row
  b_row : Binds K d_row ["_law_bag_here", "_law_most"] []
  g_row : mg "_law_row" = some (.ref a_row)
  a_any_key : Addr
  d_any_key : FuncData
  F_any_key : Fun K "_law_any_key" "_law_any_key" s_any_key a_any_key d_any_key
  b_any_key : Binds K d_any_key ["_law_bag_here"] []
  g_any_key : mg "_law_any_key" = some (.ref a_any_key)
  a_changed : Addr
  d_changed : FuncData
  F_changed : Fun K "_law_changed" "_law_changed" s_changed a_changed d_changed
  b_changed : Binds K d_changed ["_law_bag_here", "_law_row_here"] []
  g_changed : mg "_law_changed" = some (.ref a_changed)
  a_rows_shown : Addr
  d_rows_shown : FuncData
  F_rows_shown : Fun K "_law_rows_shown" "_law_rows_shown" s_rows_shown a_rows_shown d_rows_shown
  b_rows_shown : Binds K d_rows_shown ["_law_bag_here"] []
  g_rows_shown : mg "_law_rows_shown" = some (.ref a_rows_shown)
  a_known_by : Addr
  d_known_by : FuncData
  F_known_by : Fun K "_law_known_by" "_law_known_by" s_known_by a_known_by d_known_by
  b_known_by : Binds K d_known_by ["_law_form_here", "_law_row_here"] []
  g_known_by : mg "_law_known_by" = some (.ref a_known_by)
  a_shows : Addr
  d_shows : FuncData
  F_shows : Fun K "_law_shows" "_law_shows" s_shows a_shows d_shows
  b_shows : Binds K d_shows ["_law_model", "_law_row_here"] []
  g_shows : mg "_law_shows" = some (.ref a_shows)
  a_agrees : Addr
  d_agrees : FuncData
  F_agrees : Fun K "_law_agrees" "_law_agrees" s_agrees a_agrees d_agrees
  b_agrees : Binds K d_agrees ["_law_box", "_law_model"] []
  g_agrees : mg "_law_agrees" = some (.ref a_agrees)
  a_not_read : Addr
  d_not_read : FuncData
  F_not_read : Fun K "_law_not_read" "_law_not_read" s_not_read a_not_read d_not_read
  b_not_read : Binds K d_not_read ["_law_box", "_law_item"] []
  g_not_read : mg "_law_not_read" = some (.ref a_not_read)
  a_not_set : Addr
  d_not_set : FuncData
  F_not_set : Fun K "_law_not_set" "_law_not_set" s_not_set a_not_set d_not_set
  b_not_set : Binds K d_not_set ["_law_box", "_law_item"] []
  g_not_set : mg "_law_not_set" = some (.ref a_not_set)
  a_step : Addr
  d_step : FuncData
  F_step : Fun K "_law_step" "_law_step" s_step a_step d_step
  b_step : Binds K d_step ["_law_bag_here", "_law_box", "_law_model", "_law_rows"] []
  g_step : mg "_law_step" = some (.ref a_step)
  a_law : Addr
  d_law : FuncData
  F_law : Fun K "law" "law" s_law a_law d_law
  b_law : Binds K d_law ["_law_script"] []
  g_law : mg "law" = some (.ref a_law)
  D_COUNTS : Addr
  e_COUNTS : Array DictEntry
  n_COUNTS : Nat
  g_COUNTS : mg "COUNTS" = some (.ref D_COUNTS)
  l_COUNTS : K.lookup D_COUNTS = some ⟨.type "dict", none, .dict e_COUNTS n_COUNTS, #[]⟩
  q_COUNTS : PySem.W.KeysLit W.params e_COUNTS.toList
  w_COUNTS : (D_COUNTS == sysModules) = false
  k_COUNTS_0 : ∃ t, PySem.W.nsIn K D_COUNTS "is" = some (some (.int 2 t))
  k_COUNTS_1 : ∃ t, PySem.W.nsIn K D_COUNTS "get" = some (some (.int 2 t))
  k_COUNTS_2 : ∃ t, PySem.W.nsIn K D_COUNTS "sum" = some (some (.int 3 t))
  k_COUNTS_3 : ∃ t, PySem.W.nsIn K D_COUNTS "same" = some (some (.int 3 t))
  k_COUNTS_4 : ∃ t, PySem.W.nsIn K D_COUNTS "pick" = some (some (.int 4 t))
  C_Key : Addr
  g_Key : mg "Key" = some (.ref C_Key)
  cl_Key : Cls K C_Key
  na_Key_form : NoAttr K C_Key "form"
  mk_Key : Mk K C_Key a_Key_init
  co_Key : StX.CallO K C_Key a_Key_call
  sp_Key_le : PySem.W.findIn K (.ref C_Key) "__le__" = some (some (.ref a_Key_le)) ∧ PySem.W.isFn K (.ref a_Key_le) = true
  me_Key_idents : Meth K C_Key "idents" a_Key_idents
  p_Key_parts : Addr
  pr_Key_parts : PropOf K C_Key "parts" p_Key_parts a_Key_parts
  ty_Key : PySem.W.findIn K (.ref C_Key) "__class__" = some (some (.builtin "object.__class__")) ∧ PySem.W.specialIn K (.builtin "object.__class__") "__get__" = some (some (.builtin "getset_descriptor.__get__")) ∧ PySem.W.takesIn K (.builtin "object.__class__") = some true ∧ PySem.W.mroIn K C_Key (.type "object") = some true ∧ PySem.W.kitOne K (.ref C_Key) (.ref C_Key) = some true
  C_Known : Addr
  g_Known : mg "Known" = some (.ref C_Known)
  cl_Known : Cls K C_Known
  na_Known_key : NoAttr K C_Known "key"
  na_Known_row : NoAttr K C_Known "row"
  na_Known_known_by : NoAttr K C_Known "known_by"
  na_Known_numbers : NoAttr K C_Known "numbers"
  mk_Known : Mk K C_Known a_Known_init
  sp_Known_iter : PySem.W.findIn K (.ref C_Known) "__iter__" = some (some (.ref a_Known_iter)) ∧ PySem.W.isFn K (.ref a_Known_iter) = true
  sp_Known_getitem : PySem.W.findIn K (.ref C_Known) "__getitem__" = some (some (.ref a_Known_getitem)) ∧ PySem.W.isFn K (.ref a_Known_getitem) = true ∧ PySem.W.fnIn K a_Known_getitem = true
  sp_Known_setitem : PySem.W.findIn K (.ref C_Known) "__setitem__" = some (some (.ref a_Known_setitem)) ∧ PySem.W.isFn K (.ref a_Known_setitem) = true ∧ PySem.W.noSeq K C_Known = true
  me_Known_show : Meth K C_Known "show" a_Known_show
  C_Things : Addr
  g_Things : mg "Things" = some (.ref C_Things)
  cl_Things : Cls K C_Things
  na_Things_row : NoAttr K C_Things "row"
  na_Things_numbers : NoAttr K C_Things "numbers"
  mk_Things : Mk K C_Things a_Things_init
  sp_Things_iter : PySem.W.findIn K (.ref C_Things) "__iter__" = some (some (.ref a_Things_iter)) ∧ PySem.W.isFn K (.ref a_Things_iter) = true
  sp_Things_getitem : PySem.W.findIn K (.ref C_Things) "__getitem__" = some (some (.ref a_Things_getitem)) ∧ PySem.W.isFn K (.ref a_Things_getitem) = true ∧ PySem.W.fnIn K a_Things_getitem = true
  sp_Things_setitem : PySem.W.findIn K (.ref C_Things) "__setitem__" = some (some (.ref a_Things_setitem)) ∧ PySem.W.isFn K (.ref a_Things_setitem) = true ∧ PySem.W.noSeq K C_Things = true
  me_Things_show : Meth K C_Things "show" a_Things_show
  x_file : Str
  C_ScreenError : Addr
  g_ScreenError : mg "ScreenError" = some (.ref C_ScreenError)
  C_NoName : Addr
  g_NoName : mg "NoName" = some (.ref C_NoName)
  C_BadRow : Addr
  g_BadRow : mg "BadRow" = some (.ref C_BadRow)
  C_NoItem : Addr
  i_NoItem : Addr
  g_NoItem : mg "NoItem" = some (.ref C_NoItem)
  x_NoItem : ∀ P : Program, PySem.XExc.PF P x_file → PySem.XExc.ExTxt P K mg "NoItem" "item" "no such item: " C_NoItem i_NoItem
  xc_NoItem : ExcC K C_NoItem
  xf_NoItem : XfC K C_NoItem
  ki_NoItem_NoName : PySem.W.kitOne K (.ref C_NoItem) (.ref C_NoName) = some false
  ki_NoItem_BadRow : PySem.W.kitOne K (.ref C_NoItem) (.ref C_BadRow) = some false
  em_NoItem_ScreenError : PySem.W.exmOne K (.ref C_NoItem) (.ref C_ScreenError) = some true
  nl_Known : PySem.W.findIn K (.ref C_Known) "__len__" = some none
  nh_Known : PySem.W.findIn K (.ref C_Known) "__length_hint__" = some none
  nl_Things : PySem.W.findIn K (.ref C_Things) "__len__" = some none
  nh_Things : PySem.W.findIn K (.ref C_Things) "__length_hint__" = some none
/-! ### the bag -/
structure Bag (G : Hp) (o : HO) : Prop where
  ex : ∃ (n : Addr) (ns : List Int) (i g t s : Int), o = .lst [.ref n, .int i, .int g, .int t, .int s] ∧ G n = some (.lst (ns.map V.int)) ∧ 0 ≤ i ∧ 0 ≤ g
theorem Bag.same {G G' : Hp} {o : HO} (e : Same G G') (b : Bag G o) : Bag G' o := by
  obtain ⟨n, ns, i, g, t, s, h1, h2, h3⟩ := b.ex
  exact ⟨n, ns, i, g, t, s, h1, e _ _ h2, h3⟩

section
variable {P : Program} {w : World} {K : PySem.W.Frag} {mg : Str → Option Value} {base : Heap}
def spMixed : Sp := fun vs H Q _ => ∃ n t : Int, vs = [.int n, .int t] ∧ ∀ r : Int, 0 ≤ r → r < 2147483587 → Q (.int r) H
theorem ok_mixed (T : Top K mg w) {k : Nat} : FnOk P w K mg base CX0 (k + 1) T.a_mixed T.d_mixed ["_law_number_here", "_law_turn"] spMixed := by
  refine T.F_mixed.ok sc_mixed (fun vs H Q E h => ?_) (fun cdv A outer s H vs Q E hr h => ?_)
  · obtain ⟨n, t, rfl, _⟩ := h
    rfl
  · obtain ⟨n, t, rfl, q⟩ := h
    refine ⟨_, (pss_cons (ps_set (i := 2) sc_mixed.nd rfl (.inl rfl) (pe_op op_modY (pe_callTy cr_int (by rfl) T.m_int (by decide +kernel) (pa_cons (pe_op op_addY (pe_op op_mulY (pe_op op_addY (xv 0) pe_int) pe_int) (pe_op op_mulY (pe_op op_addY (xv 1) pe_int) pe_int)) pa_nil)) pe_int))
      (pss_cons (ps_set (i := 3) sc_mixed.nd rfl (.inl rfl) (pe_op op_modY (pe_callTy cr_int (by rfl) T.m_int (by decide +kernel) (pa_cons (pe_op op_addY (pe_op op_addY (pe_op op_mulY (xv 2) (xv 2)) (pe_op op_mulY (xv 2) pe_int)) (pe_op op_mulY (pe_op op_addY (xv 1) pe_int) pe_int)) pa_nil)) pe_int))
      (pss_one (ps_ret (pe_op op_modY (pe_callTy cr_int (by rfl) T.m_int (by decide +kernel) (pa_cons (pe_op op_addY (pe_op op_addY (pe_op op_divY (xv 3) pe_int) (pe_op op_mulY (xv 3) pe_int)) (xv 1)) pa_nil)) pe_int))))), ?_⟩
    refine ⟨.inr ⟨by decide, by decide⟩, .inr ⟨by decide, by decide⟩, by decide, fun f _ f0 f1 => ?_⟩
    refine ⟨.inl ⟨by omega, by omega⟩, .inr ⟨by decide, by decide⟩, .inr ⟨by decide, by decide⟩, by decide, fun g _ g0 g1 => ?_⟩
    refine ⟨⟨by decide, by decide⟩, fun d _ _ => ⟨.inr ⟨by decide, by decide⟩, by decide, fun r _ r0 r1 => ?_⟩⟩
    exact q r r0 r1

def spPick : Sp := fun vs H Q _ => ∃ (G : Hp) (M : List (Addr × HO)) (b : Addr) (o : HO) (n : Int), vs = [.ref b, .int n] ∧ Sep G ((b, o) :: M) H ∧ Bag G o ∧ 0 < n ∧ n < 1073741824 ∧
  ∀ (r : Int) (o' : HO) (H' : Hp), 0 ≤ r → r < n → Bag G o' → Sep G ((b, o') :: M) H' → Q (.int r) H'
theorem ok_pick (T : Top K mg w) {k : Nat} (G_mixed : FnOk P w K mg base CX0 (k + 1) T.a_mixed T.d_mixed ["_law_number_here", "_law_turn"] spMixed) :
    FnOk P w K mg base CX0 (k + 2) T.a_pick T.d_pick ["_law_bag_here", "_law_many"] spPick := by
  refine T.F_pick.ok sc_pick (fun vs H Q E h => ?_) (fun cdv A outer s H vs Q E hr h => ?_)
  · obtain ⟨G, M, b, o, n, rfl, _⟩ := h
    rfl
  · obtain ⟨G, M, b, o, n, rfl, S, B, n0, n1, q⟩ := h
    obtain ⟨N, ns, i, g, t, z, rfl, hN, i0, g0⟩ := B.ex
    refine ⟨_, (pss_cons (ps_set (i := 2) sc_pick.nd rfl (.inl rfl) (pe_ix (ix_k K) (xv 0) pe_int (fun _ _ => rfl)))
      (pss_cons (ps_asg (pe_op op_addY (xv 2) pe_int) (pg_sub (xv 0) pe_int set_list))
      (xss_cut (xs_if (PW.pt (xw_and (xt_cmp (op_eqK K hr.units) (pe_ix (ix_k K) (xv 0) pe_int (fun _ _ => rfl)) pe_int (nomark _)) (pw_and1 (xt_cmp op_ltY (pe_ix (ix_k K) (xv 0) pe_int (fun _ _ => rfl)) (pe_callB (cr_lenK K) (by rfl) T.m_len (by decide +kernel) (pa_cons (pe_ix (ix_k K) (xv 0) pe_int (fun _ _ => rfl)) pa_nil)) (nomark _)))))
      (pss_cons (ps_set (i := 3) sc_pick.nd rfl (.inl rfl) (pe_ix (ix_k K) (pe_ix (ix_k K) (xv 0) pe_int (fun _ _ => rfl)) (pe_ix (ix_k K) (xv 0) pe_int (fun _ _ => rfl)) (fun _ _ => rfl)))
      (pss_cons (ps_asg (pe_op op_addY (pe_ix (ix_k K) (xv 0) pe_int (fun _ _ => rfl)) pe_int) (pg_sub (xv 0) pe_int set_list))
      (pss_cons (xs_if (xt_cmp op_ltY (pe_callB cr_abs (by rfl) T.m_abs (by decide +kernel) (pa_cons (xv 3) pa_nil)) (pe_op op_powY pe_int pe_int) (nomark _))
      (pss_one (ps_ret (pe_op op_modY (pe_callTy cr_int (by rfl) T.m_int (by decide +kernel) (pa_cons (pe_call G_mixed (hr.mono (by omega)) (by rfl) T.g_mixed T.F_mixed.kp T.b_mixed .nil pass0 (pa_cons (pe_op op_addY (pe_op op_mulY pe_int (pe_callB cr_abs (by rfl) T.m_abs (by decide +kernel) (pa_cons (xv 3) pa_nil))) (pe_cmpR op_ltY (xv 3) pe_int (nomark _))) (pa_cons (xv 2) pa_nil))) pa_nil)) (xv 1))))
      pss_nil)
      (pss_one (ps_asg (pe_callB cr_abs (by rfl) T.m_abs (by decide +kernel) (pa_cons (xv 3) pa_nil)) (pg_sub (xv 0) pe_int set_list))))))
      pss_nil)
      (pss_cons (xs_if (xt_cmp (op_eqK K hr.units) (pe_ix (ix_k K) (xv 0) pe_int (fun _ _ => rfl)) pe_int (nomark _))
      (pss_one (ps_ret (pe_op op_modY (pe_callTy cr_int (by rfl) T.m_int (by decide +kernel) (pa_cons (pe_call G_mixed (hr.mono (by omega)) (by rfl) T.g_mixed T.F_mixed.kp T.b_mixed .nil pass0 (pa_cons (pe_ix (ix_k K) (xv 0) pe_int (fun _ _ => rfl)) (pa_cons (xv 2) pa_nil))) pa_nil)) (xv 1))))
      pss_nil)
      (pss_cons (ps_set (i := 4) sc_pick.nd rfl (.inl rfl) (pe_op op_modY (pe_callTy cr_int (by rfl) T.m_int (by decide +kernel) (pa_cons (pe_ix (ix_k K) (xv 0) pe_int (fun _ _ => rfl)) pa_nil)) (xv 1)))
      (pss_cons (ps_asg (pe_op op_divY (pe_ix (ix_k K) (xv 0) pe_int (fun _ _ => rfl)) (xv 1)) (pg_sub (xv 0) pe_int set_list))
      (pss_one (ps_ret (xv 4))))))))), ?_⟩
    -- the turn
    refine ⟨_, _, .inl (SqL.of S.hd), rfl, b, _, _, 3, rfl, rfl, S.hd, rfl, ?_⟩
    have S1 := S.set (o' := .lst [.ref N, .int i, .int g, .int (t + 1), .int z])
    have fin : ∀ (j : Int) (g' : Int) (H2 : Hp), 0 ≤ j → 0 ≤ g' → Sep G ((b, .lst [.ref N, .int j, .int g', .int (t + 1), .int z]) :: M) H2 → (g' = 0 → ∀ r : Int, 0 ≤ r → r < n → Q (.int r) H2) ∧
        (∀ (r d : Int), 0 ≤ r → r < n → 0 ≤ d → Q (.int r) (upd H2 b (.lst [.ref N, .int j, .int d, .int (t + 1), .int z]))) := fun j g' H2 j0 h0 S2 =>
      ⟨fun _ r r0 r1 => q r _ _ r0 r1 ⟨N, ns, j, g', t + 1, z, rfl, hN, j0, h0⟩ S2, fun r d r0 r1 d0 => q r _ _ r0 r1 ⟨N, ns, j, d, t + 1, z, rfl, hN, j0, d0⟩ S2.set⟩
    -- the rest, from a bag on
    refine ⟨fun σ H2 => ∃ (y3 y4 : Option V) (j g' : Int), σ = [some (.ref b), some (.int n), some (.int t), y3, y4] ∧ 0 ≤ j ∧ 0 ≤ g' ∧ Sep G ((b, .lst [.ref N, .int j, .int g', .int (t + 1), .int z]) :: M) H2, ?_, fun σ H2 h => ?_⟩
    · have go : ∃ (y3 y4 : Option V) (j g' : Int), ([some (.ref b), some (.int n), some (.int t), none, none] : List (Option V)) = [some (.ref b), some (.int n), some (.int t), y3, y4] ∧ 0 ≤ j ∧ 0 ≤ g' ∧ Sep G ((b, .lst [.ref N, .int j, .int g', .int (t + 1), .int z]) :: M) _ := ⟨_, _, i, g, rfl, i0, g0, S1⟩
      refine ⟨_, _, .inl (SqL.of S1.hd), rfl, fun e => ⟨_, _, .inl (SqL.of S1.hd), rfl, _, _, .inl (SqL.of S1.hd), rfl, _, .inl (SqL.of (S1.st hN)), fun e => ?_, fun e => go⟩, fun e => ⟨ff, fun _ => go⟩⟩
      have hi : i < (ns.map V.int).length := of_decide_eq_true e
      obtain ⟨v, hv, hm⟩ := atI_in i0 hi
      obtain ⟨c, _, rfl⟩ := List.mem_map.mp hm
      refine ⟨_, _, .inl (SqL.of S1.hd), rfl, _, _, .inl (SqL.of S1.hd), rfl, _, _, .inl (SqL.of (S1.st hN)), hv, ?_⟩
      refine ⟨_, _, .inl (SqL.of S1.hd), rfl, b, _, _, 1, rfl, rfl, S1.hd, rfl, ?_⟩
      have S2 := S1.set (o' := .lst [.ref N, .int (i + 1), .int g, .int (t + 1), .int z])
      refine ⟨⟨by decide, by decide, by decide⟩, fun p _ => ⟨fun e => ?_, fun e => ?_⟩⟩
      · refine ⟨.inl ⟨by decide, by decide⟩, _, _, rfl, fun m _ _ => ⟨n0, fun r _ r0 r1 => ?_⟩⟩
        exact q r _ _ r0 r1 ⟨N, ns, i + 1, g, t + 1, z, rfl, hN, by omega, g0⟩ S2
      · refine ⟨b, _, _, 2, rfl, rfl, S2.hd, rfl, ?_⟩
        exact ⟨_, _, i + 1, c.natAbs, rfl, by omega, by omega, S2.set⟩
    · obtain ⟨y3, y4, j, g', rfl, j0, h0, S2⟩ := h
      obtain ⟨f1, f2⟩ := fin j g' H2 j0 h0 S2
      refine ⟨_, _, .inl (SqL.of S2.hd), rfl, fun e => ?_, fun e => ?_⟩
      · refine ⟨_, _, .inl (SqL.of S2.hd), rfl, _, _, rfl, fun m _ _ => ⟨n0, fun r _ r0 r1 => ?_⟩⟩
        exact f1 (of_decide_eq_true e) r r0 r1
      · refine ⟨_, _, .inl (SqL.of S2.hd), rfl, n0, fun r _ r0 r1 => ?_⟩
        refine ⟨_, _, .inl (SqL.of S2.hd), rfl, ⟨n0, n1⟩, fun d _ d0 => ⟨b, _, _, 2, rfl, rfl, S2.hd, rfl, ?_⟩⟩
        exact f2 r d r0 r1 (d0 h0)

def spBag (K : PySem.W.Frag) : Sp := fun vs H Q _ => ∃ (G : Hp) (M : List (Addr × HO)) (a : Addr) (ns : List Int), vs = [.ref a] ∧ Sep G M H ∧ SqL K G a (ns.map V.int) ∧ ns.length ≤ 63 ∧
  ∀ (b : Addr) (o : HO) (G' H' : Hp), Same G G' → Bag G' o → Sep G' ((b, o) :: M) H' → Q (.ref b) H'
theorem ok_bag (T : Top K mg w) {k : Nat} : FnOk P w K mg base CX0 (k + 1) T.a_bag T.d_bag ["_law_script"] (spBag K) := by
  refine T.F_bag.ok sc_bag (fun vs H Q E h => ?_) (fun cdv A outer s H vs Q E hr h => ?_)
  · obtain ⟨G, M, a, ns, rfl, _⟩ := h
    rfl
  · obtain ⟨G, M, a, ns, rfl, S, hA, hl, q⟩ := h
    refine ⟨_, (pss_cons (ps_setLc (i := 2) (own := [("_law_cell", 1)]) (by rfl) sc_bag.nd rfl rfl (sw_true rfl rfl rfl (by decide +kernel)) (pi_listK K (xv 0)) (blkOk_by (N := ["_law_script", "_law_cell", "_law_numbers", "_law_seed", "_law_at"]) (sc := defScope s_bag) (by decide +kernel)) (fun _ _ _ _ _ => (pg_name (i := 1) sc_bag.nd rfl (.inl rfl))) (fun _ _ _ _ _ => pts_nil) (fun _ _ _ _ _ => (pe_callTy cr_int (by rfl) T.m_int (by decide +kernel) (pa_cons (xv 1) pa_nil))))
      (pss_cons (ps_set (i := 3) sc_bag.nd rfl (.inl rfl) (pe_callB (cr_lenK K) (by rfl) T.m_len (by decide +kernel) (pa_cons (xv 2) pa_nil)))
      (pss_cons (ps_for PassesOwn.never rfl (pi_enum (by rfl) T.m_enumerate (pa_cons (pe_slice (sl_listK K) (xv 2) po_none (po_some pe_int)) pa_nil)) (pg_tupK K 2 (pgs_cons (pg_name (i := 4) sc_bag.nd rfl (.inl rfl)) (pgs_cons (pg_name (i := 1) sc_bag.nd rfl (.inl rfl)) pgs_nil)))
      (pss_one (ps_set (i := 3) sc_bag.nd rfl (.inl rfl) (pe_op op_modY (pe_callTy cr_int (by rfl) T.m_int (by decide +kernel) (pa_cons (pe_op op_addY (pe_op op_addY (pe_op op_mulY (xv 3) pe_int) (pe_op op_modY (pe_callTy cr_int (by rfl) T.m_int (by decide +kernel) (pa_cons (pe_callB cr_abs (by rfl) T.m_abs (by decide +kernel) (pa_cons (xv 1) pa_nil)) pa_nil)) pe_int)) (pe_op op_mulY (pe_op op_addY (xv 4) pe_int) (pe_cmpR op_ltY (xv 1) pe_int (nomark _)))) pa_nil)) pe_int))))
      (pss_one (ps_ret (pe_lst (pa_cons (xv 2) (pa_cons pe_int (pa_cons pe_int (pa_cons pe_int (pa_cons (xv 3) pa_nil))))))))))), ?_⟩
    refine ⟨a, rfl, ⟨_, S.l hA⟩, fun L nL => lc_pre (xs := ns.map V.int) (fun pre H' => Sep G ((L, .lst pre) :: M) H') (S.new nL) (fun pre H' p => p.l hA) (fun _ => rfl) (fun pre x post H' e p => ?_) (fun H' S1 => ?_)⟩
    · obtain ⟨c, _, rfl⟩ := List.mem_map.mp (show x ∈ ns.map V.int by rw [e]; simp)
      have hz : pre.length ≤ 63 := by
        have z := congrArg List.length e
        rw [List.length_map, List.length_append] at z
        omega
      exact ⟨_, p.hd, smallL (by omega), p.set⟩
    · -- the seed
      have S2 := S1.frz
      have hN : upd G L (.lst (ns.map V.int)) L = some (.lst (ns.map V.int)) := upd_same
      refine ⟨_, .inl (SqL.of (S2.st hN)), ?_⟩
      refine ⟨63, rfl, L, _, rfl, SqL.of (S2.st hN), fun c nc => ?_⟩
      have S3 := S2.newG (o := .lst (cutV (ns.map V.int) none (some 63))) nc
      have s3 := S2.grow (o := .lst (cutV (ns.map V.int) none (some 63))) nc
      refine ⟨c, _, rfl, SqL.of (S3.st upd_same), for_enum (xs := cutV (ns.map V.int) none (some 63)) (fun pre σ H' => ∃ (y1 y4 : Option V) (z : Int) (G' : Hp), σ = [some (.ref a), y1, some (.ref L), some (.int z), y4] ∧
        Same (upd (upd G L (.lst (ns.map V.int))) c (.lst (cutV (ns.map V.int) none (some 63)))) G' ∧ Sep G' M H') ⟨_, _, _, _, rfl, Same.refl _, S3⟩ (fun pre σ H' h => ?_) (fun pre x post σ H' W e h nW => ?_) (fun σ H' h => ?_)⟩
      · obtain ⟨_, _, _, G', _, s4, S4⟩ := h
        exact SqL.of (S4.st (s4 _ _ upd_same))
      · obtain ⟨y1, y4, z, G', rfl, s4, S4⟩ := h
        have hx : x ∈ ns.map V.int := by
          have hm : x ∈ cutV (ns.map V.int) none (some 63) := by rw [e]; simp
          exact List.mem_of_mem_drop (List.mem_of_mem_take hm)
        obtain ⟨v, _, rfl⟩ := List.mem_map.mp hx
        have S5 := S4.newG (o := .tup [.int (pre.length : Nat), .int v]) nW
        refine ⟨.inr ⟨by decide, by decide⟩, by decide, fun r _ r0 r1 => ⟨by decide, fun u _ u0 u1 => ?_⟩⟩
        exact ⟨_, _, _, _, rfl, s4.trans (S4.grow nW), S5⟩
      · obtain ⟨y1, y4, z, G', rfl, s4, S4⟩ := h
        refine ⟨sz, fun b nb => ?_⟩
        exact q b _ G' _ ((S1.frzS).trans (s3.trans s4)) ⟨L, ns, 0, 0, 0, z, rfl, s4 _ _ (s3 _ _ hN), by decide, by decide⟩ (S4.new nb)

def spChoice (K : PySem.W.Frag) : Sp := fun vs H Q _ => ∃ (G : Hp) (M : List (Addr × HO)) (b : Addr) (o : HO) (l : Addr) (xs : List V), vs = [.ref b, .ref l] ∧ Sep G ((b, o) :: M) H ∧ Bag G o ∧ SqL K G l xs ∧ 0 < xs.length ∧ xs.length < 100000 ∧
  ∀ (v : V) (o' : HO) (H' : Hp), v ∈ xs → Bag G o' → Sep G ((b, o') :: M) H' → Q v H'
theorem ok_choice (T : Top K mg w) {k : Nat} (G_pick : FnOk P w K mg base CX0 k T.a_pick T.d_pick ["_law_bag_here", "_law_many"] spPick) : FnOk P w K mg base CX0 (k + 1) T.a_choice T.d_choice ["_law_bag_here", "_law_things"] (spChoice K) := by
  refine T.F_choice.ok sc_choice (fun vs H Q E h => ?_) (fun cdv A outer s H vs Q E hr h => ?_)
  · obtain ⟨G, M, b, o, l, xs, rfl, _⟩ := h
    rfl
  · obtain ⟨G, M, b, o, l, xs, rfl, S, B, hl, x0, x1, q⟩ := h
    refine ⟨_, (pss_one (ps_ret (pe_ix (ix_k K) (xv 1) (pe_call G_pick (hr.mono (by omega)) (by rfl) T.g_pick T.F_pick.kp T.b_pick .nil pass0 (pa_cons (xv 0) (pa_cons (pe_callB (cr_lenK K) (by rfl) T.m_len (by decide +kernel) (pa_cons (xv 1) pa_nil)) pa_nil))) (fun _ _ => rfl)))), ?_⟩
    refine ⟨_, .inl (S.l hl), G, M, b, o, _, rfl, S, B, by omega, by omega, fun r o' H' r0 r1 B' S' => ?_⟩
    obtain ⟨v, hv, hm⟩ := atI_in r0 r1
    exact ⟨_, v, .inl (S'.l hl), hv, q v o' H' hm B' S'⟩

def spMingled (K : PySem.W.Frag) : Sp := fun vs H Q _ => ∃ (G : Hp) (M : List (Addr × HO)) (b : Addr) (o : HO) (l : Addr) (xs : List V), vs = [.ref b, .ref l] ∧ Sep G ((b, o) :: M) H ∧ Bag G o ∧ SqL K G l xs ∧ xs.length < 100000 ∧
  ∀ (p : Addr) (ys : List V) (o' : HO) (G' H' : Hp), Same G G' → G' p = some (.lst ys) → ys.Perm xs → Bag G' o' → Sep G' ((b, o') :: M) H' → Q (.ref p) H'
theorem ok_mingled (T : Top K mg w) {k : Nat} (G_pick : FnOk P w K mg base CX0 k T.a_pick T.d_pick ["_law_bag_here", "_law_many"] spPick) : FnOk P w K mg base CX0 (k + 1) T.a_mingled T.d_mingled ["_law_bag_here", "_law_things"] (spMingled K) := by
  refine T.F_mingled.ok sc_mingled (fun vs H Q E h => ?_) (fun cdv A outer s H vs Q E hr h => ?_)
  · obtain ⟨G, M, b, o, l, xs, rfl, _⟩ := h
    rfl
  · obtain ⟨G, M, b, o, l, xs, rfl, S, B, hl, x1, q⟩ := h
    refine ⟨_, (pss_cons (ps_set (i := 2) sc_mingled.nd rfl (.inl rfl) (pe_callTy (call_listK K) (by rfl) T.m_list (by decide +kernel) (pa_cons (xv 1) pa_nil)))
      (pss_cons (ps_set (i := 3) sc_mingled.nd rfl (.inl rfl) (pe_lst pa_nil))
      (pss_cons (ps_for PassesOwn.never rfl (pi_range1 (by rfl) T.m_range (pa_cons (pe_callB (cr_lenK K) (by rfl) T.m_len (by decide +kernel) (pa_cons (xv 1) pa_nil)) pa_nil)) (pg_name (i := 4) sc_mingled.nd rfl (.inl rfl))
      (pss_one (ps_expr (pe_bmK K PySem.F.plainAttrs_list PySem.F.slot_list_append PySem.F.type_list_append mt_append (xv 3) (pa_cons (pe_bmK K PySem.F.plainAttrs_list PySem.F.slot_list_pop PySem.F.type_list_pop mt_popAt (xv 2) (pa_cons (pe_call G_pick (hr.mono (by omega)) (by rfl) T.g_pick T.F_pick.kp T.b_pick .nil pass0 (pa_cons (xv 0) (pa_cons (pe_callB (cr_lenK K) (by rfl) T.m_len (by decide +kernel) (pa_cons (xv 2) pa_nil)) pa_nil))) pa_nil)) pa_nil)))))
      (pss_one (ps_ret (xv 3)))))), ?_⟩
    refine ⟨l, xs, rfl, .inl (S.l hl), fun L nL => ?_⟩
    have S1 := S.new (o := .lst xs) nL
    refine ⟨sz, fun O nO => ?_⟩
    have S2 := S1.new (o := .lst []) nO
    refine ⟨_, .inl (S2.l hl), _, rfl, by omega, by omega, for_range (lo := 0) (n := (xs.length : Int).toNat) (fun i σ H' => ∃ (y4 : Option V) (o' : HO) (ls os : List V), σ = [some (.ref b), some (.ref l), some (.ref L), some (.ref O), y4] ∧
      Bag G o' ∧ Sep G ((O, .lst os) :: (L, .lst ls) :: (b, o') :: M) H' ∧ ls.length + i = xs.length ∧ os.length = i ∧ (os ++ ls).Perm xs) ?_ (fun i σ H' hi h => ?_) (fun σ H' h => ?_)⟩
    · exact ⟨_, o, xs, [], rfl, B, S2, by omega, rfl, List.Perm.refl _⟩
    · obtain ⟨y4, o', ls, os, rfl, B', S3, e1, e2, pm⟩ := h
      have S4 := (S3.sw).perm (List.Perm.cons _ (List.Perm.swap _ _ _))
      have S5 := S4.sw
      -- out.append(left.pop(pick(bag, len(left))))
      refine ⟨.inl ⟨rfl, _, SqL.of S3.hd⟩, .inl ⟨rfl, _, SqL.of S4.hd⟩, _, .inl (SqL.of S4.hd), G, _, b, o', _, rfl, S5, B', by omega, by omega, fun r o2 H2 r0 r1 B2 S6 => ?_⟩
      have S7 := S6.sw
      obtain ⟨v, hv, hm⟩ := atI_in r0 r1
      have S8 := S7.set (o' := .lst (ls.eraseIdx r.toNat))
      have S9 := (S8.perm (List.Perm.cons _ (List.Perm.swap _ _ _))).sw
      refine ⟨L, ls, r, r.toNat, v, rfl, rfl, S7.hd, by omega, by omega, seqIdx r0 r1, atN r0 hv, O, os, v, rfl, rfl, S9.hd, smallL (by omega), ?_⟩
      refine ⟨_, o2, ls.eraseIdx r.toNat, os ++ [v], rfl, B2, S9.set, ?_, ?_, ?_⟩
      · rw [List.length_eraseIdx_of_lt (by omega)]
        omega
      · rw [List.length_append, e2]
        rfl
      · refine List.Perm.trans ?_ pm
        rw [List.append_assoc, List.singleton_append]
        refine List.Perm.append_left _ ?_
        exact perm_erase (atN r0 hv)
    · obtain ⟨y4, o', ls, os, rfl, B', S3, e1, e2, pm⟩ := h
      have S4 := ((S3.frz).drop)
      exact q O os o' _ _ S3.frzS upd_same (by
        have e3 : ls = [] := List.eq_nil_of_length_eq_zero (by omega)
        rw [e3, List.append_nil] at pm
        exact pm) (B'.same S3.frzS) S4

def spNumber : Sp := fun vs H Q _ => ∃ i : Int, vs = [.int i] ∧ Q (.bl true) H
theorem ok_number (T : Top K mg w) {k : Nat} : FnOk P w K mg base CX0 (k + 1) T.a_number T.d_number ["_law_thing"] spNumber := by
  refine T.F_number.ok sc_number (fun vs H Q E h => ?_) (fun cdv A outer s H vs Q E hr h => ?_)
  · obtain ⟨i, rfl, _⟩ := h
    rfl
  · obtain ⟨i, rfl, q⟩ := h
    refine ⟨_, (pss_one (ps_ret (xe_and (pe_callB (call_isK K) (by rfl) T.m_isinstance (by decide +kernel) (pa_cons (xv 0) (pa_cons (pe_bltn (v := .ty "int") (by rfl) T.m_int (by decide +kernel) rfl) pa_nil))) (pe_one (xe_not (pe_callB (call_isK K) (by rfl) T.m_isinstance (by decide +kernel) (pa_cons (xv 0) (pa_cons (pe_bltn (v := .ty "bool") (by rfl) T.m_bool (by decide +kernel) rfl) pa_nil)))))))), ?_⟩
    refine ⟨_, _, _, _, true, rfl, .ty _, .base (.int _), kit_ty (by decide +kernel), fun _ => ⟨_, _, _, _, false, rfl, .ty _, .base (.int _), kit_ty (by decide +kernel), ?_⟩, fun e => nomatch e⟩
    exact q

end
end K26
set_option Elab.async false
set_option linter.all false
set_option maxRecDepth 100000
set_option maxHeartbeats 4000000
namespace K26
open PySem PySem.Spec PyProof.Rows L2 XL
/-! ### forms -/
inductive Fm where
  | is (n : Int)
  | get (x : Str)
  | sum (a b : Fm)
  | same (a b : Fm)
  | pick (a b c : Fm)
def Fm.dep : Fm → Nat
  | .is _ => 1
  | .get _ => 1
  | .sum a b => max a.dep b.dep + 1
  | .same a b => max a.dep b.dep + 1
  | .pick a b c => max a.dep (max b.dep c.dep) + 1
def Fm.size : Fm → Nat
  | .is _ => 1
  | .get _ => 1
  | .sum a b => a.size + b.size + 1
  | .same a b => a.size + b.size + 1
  | .pick a b c => a.size + b.size + c.size + 1
def Fm.val (i j : Int) : Fm → Int
  | .is n => n
  | .get x => if x = "item" then i else j
  | .sum a b => (a.val i j + b.val i j) % 10
  | .same a b => if a.val i j = b.val i j then 1 else 0
  | .pick a b c => if a.val i j = 0 then c.val i j else b.val i j
def Fm.ok : Fm → Prop
  | .is n => 0 ≤ n ∧ n ≤ 9
  | .get x => x = "item" ∨ x = "at"
  | .sum a b => a.ok ∧ b.ok
  | .same a b => a.ok ∧ b.ok
  | .pick a b c => a.ok ∧ b.ok ∧ c.ok
inductive FmAt (G : Hp) : V → Fm → Prop
  | is {p : Addr} {n : Int} : G p = some (.tup [.str "is", .int n]) → FmAt G (.ref p) (.is n)
  | get {p : Addr} {x : Str} : G p = some (.tup [.str "get", .str x]) → FmAt G (.ref p) (.get x)
  | sum {p : Addr} {v1 v2 : V} {a b : Fm} : G p = some (.tup [.str "sum", v1, v2]) → FmAt G v1 a → FmAt G v2 b → FmAt G (.ref p) (.sum a b)
  | same {p : Addr} {v1 v2 : V} {a b : Fm} : G p = some (.tup [.str "same", v1, v2]) → FmAt G v1 a → FmAt G v2 b → FmAt G (.ref p) (.same a b)
  | pick {p : Addr} {v1 v2 v3 : V} {a b c : Fm} : G p = some (.tup [.str "pick", v1, v2, v3]) → FmAt G v1 a → FmAt G v2 b → FmAt G v3 c → FmAt G (.ref p) (.pick a b c)
theorem FmAt.same' {G G' : Hp} (e : Same G G') {v : V} {f : Fm} (h : FmAt G v f) : FmAt G' v f := by
  induction h with
  | is h => exact .is (e _ _ h)
  | get h => exact .get (e _ _ h)
  | sum h _ _ i1 i2 => exact .sum (e _ _ h) i1 i2
  | same h _ _ i1 i2 => exact .same (e _ _ h) i1 i2
  | pick h _ _ _ i1 i2 i3 => exact .pick (e _ _ h) i1 i2 i3
theorem Fm.dep_pos (f : Fm) : 0 < f.dep := by cases f <;> simp [Fm.dep]
theorem Fm.size_pos (f : Fm) : 0 < f.size := by cases f <;> simp [Fm.size]
/-- a form's data -/
def Fm.dat : Fm → PyData
  | .is n => .tuple [.str "is", .int n]
  | .get x => .tuple [.str "get", .str x]
  | .sum a b => .tuple [.str "sum", a.dat, b.dat]
  | .same a b => .tuple [.str "same", a.dat, b.dat]
  | .pick a b c => .tuple [.str "pick", a.dat, b.dat, c.dat]
theorem FmAt.dp {K : PySem.W.Frag} {G H : Hp} (e : Same G H) {v : V} {f : Fm} (h : FmAt G v f) : Dp K H v f.dat := by
  induction h with
  | is h => exact .tup (SqT.of (e _ _ h)) (.cons (.str _) (.cons (.int _) .nil))
  | get h => exact .tup (SqT.of (e _ _ h)) (.cons (.str _) (.cons (.str _) .nil))
  | sum h _ _ i1 i2 => exact .tup (SqT.of (e _ _ h)) (.cons (.str _) (.cons i1 (.cons i2 .nil)))
  | same h _ _ i1 i2 => exact .tup (SqT.of (e _ _ h)) (.cons (.str _) (.cons i1 (.cons i2 .nil)))
  | pick h _ _ _ i1 i2 i3 => exact .tup (SqT.of (e _ _ h)) (.cons (.str _) (.cons i1 (.cons i2 (.cons i3 .nil))))
/-- the dict of item and at -/
abbrev env2 (i j : Int) : List (Key × V) := [(.inr "item", .int i), (.inr "at", .int j)]
theorem env_get (i j : Int) {x : Str} (h : x = "item" ∨ x = "at") : valV (env2 i j) (.inr x : Key) = some (.int (if x = "item" then i else j)) := by
  rcases h with rfl | rfl
  · rw [if_pos rfl]
    exact valV_pos rfl
  · rw [if_neg (by decide +kernel), valV_neg (by intro z; injection z with z; exact absurd z (by decide +kernel)), valV_pos rfl]
theorem env_merge (i j : Int) : mergeK [] [((.inr "item" : Key), V.int i), ((.inr "at" : Key), V.int j)] = env2 i j := by
  unfold mergeK
  rw [List.foldl_cons, List.foldl_cons, List.foldl_nil]
  have e1 : putK ([] : List (Key × V)) (.inr "item") (V.int i) = [(.inr "item", .int i)] := rfl
  rw [e1]
  unfold putK
  rw [if_neg]
  · rfl
  · simp only [List.any_cons, List.any_nil, Bool.or_false, decide_eq_true_eq]
    intro z
    injection z with z
    exact absurd z (by decide +kernel)
/-- words that differ, that are one -/
theorem wd {a b : Str} {A : Prop} (h : decide (a = b) = true) (n : decide (a = b) = false := by decide +kernel) : A := by rw [n] at h; cases h
theorem we {a : Str} {A : Prop} (h : decide (a = a) = false) : A := by rw [decide_eq_true rfl] at h; cases h
theorem wn {a b : Str} {A : Prop} (h : (!decide (a = b)) = false) (n : decide (a = b) = false := by decide +kernel) : A := by rw [n] at h; cases h
theorem wm {a : Str} {A : Prop} (h : (!decide (a = a)) = true) : A := by rw [decide_eq_true rfl] at h; cases h
theorem at0 {x : V} {r : List V} : atI (x :: r) 0 = some x := atI_nat (j := 0) rfl

section
variable {P : Program} {w : World} {K : PySem.W.Frag} {mg : Str → Option Value} {base : Heap}
/-! ### the program's forms -/
def spNumberIn : Sp := fun vs H Q _ => ∃ i l h : Int, vs = [.int i, .int l, .int h] ∧ l ≤ i ∧ i ≤ h ∧ Q (.bl true) H
theorem ok_is_number (T : Top K mg w) {k : Nat} : FnOk P w K mg base CX0 (k + 1) T.a_is_number T.d_is_number ["thing", "low", "high"] spNumberIn := by
  refine T.F_is_number.ok sc_is_number (fun vs H Q E h => ?_) (fun cdv A outer s H vs Q E hr h => ?_)
  · obtain ⟨i, l, h', rfl, _⟩ := h
    rfl
  · obtain ⟨i, l, h', rfl, h1, h2, q⟩ := h
    refine ⟨_, (pss_one (ps_ret (xe_and (pe_callB (call_isK K) (by rfl) T.m_isinstance (by decide +kernel) (pa_cons (xv 0) (pa_cons (pe_bltn (v := .ty "int") (by rfl) T.m_int (by decide +kernel) rfl) pa_nil))) (xe_and (xe_not (pe_callB (call_isK K) (by rfl) T.m_isinstance (by decide +kernel) (pa_cons (xv 0) (pa_cons (pe_bltn (v := .ty "bool") (by rfl) T.m_bool (by decide +kernel) rfl) pa_nil)))) (pe_one (xe_chain op_leY op_leY (xv 1) (xv 0) (xv 2))))))), ?_⟩
    refine ⟨_, _, _, _, true, rfl, .ty _, .base (.int _), kit_ty (by decide +kernel), fun _ => ⟨_, _, _, _, false, rfl, .ty _, .base (.int _), kit_ty (by decide +kernel), fun _ => ?_, tt⟩, tt⟩
    refine ⟨fun _ => ?_, fun e => absurd h1 (of_decide_eq_false e)⟩
    have e : decide (i ≤ h') = true := decide_eq_true h2
    show Q (.bl (decide (i ≤ h'))) H
    rw [e]
    exact q
theorem signs_in (x : Str) (h : x = "item" ∨ x = "at") : ∀ c ∈ x.cps.toList, c ∈ ("abcdefghijklmnopqrstuvwxyz" : Str).cps.toList := by
  rcases h with rfl | rfl <;> decide +kernel
def spName : Sp := fun vs H Q _ => ∃ (G : Hp) (M : List (Addr × HO)) (x : Str), vs = [.str x] ∧ Sep G M H ∧ (x = "item" ∨ x = "at") ∧ ∀ G' H', Same G G' → Sep G' M H' → Q (.bl true) H'
theorem ok_is_name (T : Top K mg w) {k : Nat} : FnOk P w K mg base CX0 (k + 1) T.a_is_name T.d_is_name ["thing"] spName := by
  refine T.F_is_name.ok sc_is_name (fun vs H Q E h => ?_) (fun cdv A outer s H vs Q E hr h => ?_)
  · obtain ⟨G, M, x, rfl, _⟩ := h
    rfl
  · obtain ⟨G, M, x, rfl, S, hx, q⟩ := h
    refine ⟨_, (pss_cons (xs_if (PW.pt (xw_or (pt_not (xt_truK K (pe_callB (call_isK K) (by rfl) T.m_isinstance (by decide +kernel) (pa_cons (xv 0) (pa_cons (pe_bltn (v := .ty "str") (by rfl) T.m_str (by decide +kernel) rfl) pa_nil))))) (xw_or (xt_cmp op_ltY (pe_callB (cr_lenK K) (by rfl) T.m_len (by decide +kernel) (pa_cons (xv 0) pa_nil)) pe_int (nomark _)) (pw_or1 (xt_cmp op_gtY (pe_callB (cr_lenK K) (by rfl) T.m_len (by decide +kernel) (pa_cons (xv 0) pa_nil)) pe_int (nomark _))))))
      (pss_one (ps_ret pe_bl))
      pss_nil)
      (pss_one (ps_ret (pe_callB (cr_allK K rfl) (by rfl) T.m_all (by decide +kernel) (pa_cons (pe_lc (own := [("sign", 1)]) (by rfl) sc_is_name.nd (pi_str (xv 0)) (blkOk_by (N := ["thing", "sign"]) (sc := defScope s_is_name) (by decide +kernel)) (fun _ _ _ _ _ => (pg_name (i := 1) sc_is_name.nd rfl (.inl rfl))) (fun _ _ _ _ _ => pts_nil) (fun _ _ _ _ _ => (pe_cmpR op_in_sign (xv 1) (xe_glob (by rfl) T.v_LETTERS) (by rfl)))) pa_nil))))), ?_⟩
    have hl : x.length = 4 ∨ x.length = 2 := by
      rcases hx with rfl | rfl
      · exact .inl (by decide +kernel)
      · exact .inr (by decide +kernel)
    have hz : x.length ≤ sizeLine := small (by omega)
    refine ⟨_, _, _, _, true, rfl, .ty _, .base (.str _), kit_ty (by decide +kernel), ff, fun _ => ⟨hz, fun e => ?_, fun _ => ⟨hz, fun e => ?_, fun _ => ?_⟩⟩⟩
    · have z := of_decide_eq_true e
      omega
    · have z : (8 : Int) < x.length := of_decide_eq_true e
      omega
    · refine ⟨x, rfl, fun L nL => lc_it (walk_str (z := x)) (fun i H' => Sep G ((L, .lst (List.replicate i (V.bl true))) :: M) H') (S.new nL) (fun _ _ _ _ => trivial) (fun i v H1 H' hi p y => ?_) (fun H' S1 => ?_)⟩
      · obtain ⟨rfl, c, hc, rfl⟩ := y
        refine ⟨rfl, c, _, rfl, rfl, _, p.hd, ?_, ?_⟩
        · rw [List.length_replicate]
          exact smallL (by have z : x.cps.size = x.length := rfl; omega)
        · have hm : decide (c ∈ ("abcdefghijklmnopqrstuvwxyz" : Str).cps.toList) = true := decide_eq_true (signs_in x hx c (by
            rw [Array.mem_toList_iff]
            exact Array.mem_of_getElem? hc))
          rw [hm, List.replicate_succ']
          exact p.set
      · refine ⟨L, List.replicate x.cps.size true, rfl, ?_, ?_⟩
        · rw [List.map_replicate]
          exact SqL.of S1.hd
        · have e : (List.replicate x.cps.size true).all id = true := by simp
          rw [e]
          exact q _ _ S1.frzS S1.frz
def spPart (K : PySem.W.Frag) : Sp := fun vs H Q _ => ∃ (G : Hp) (M : List (Addr × HO)) (v : V) (f : Fm), vs = [v] ∧ Sep G M H ∧ FmAt G v f ∧ f.ok ∧ ∀ G' H', Same G G' → Sep G' M H' → Q (.bl true) H'
theorem ok_is_part (T : Top K mg w) {k : Nat} (G_is_number : FnOk P w K mg base CX0 (k + 1) T.a_is_number T.d_is_number ["thing", "low", "high"] spNumberIn) (G_is_name : FnOk P w K mg base CX0 (k + 1) T.a_is_name T.d_is_name ["thing"] spName) :
    FnOk P w K mg base CX0 (k + 2) T.a_is_part T.d_is_part ["part"] (spPart K) := by
  refine T.F_is_part.ok sc_is_part (fun vs H Q E h => ?_) (fun cdv A outer s H vs Q E hr h => ?_)
  · obtain ⟨G, M, v, f, rfl, _⟩ := h
    rfl
  · obtain ⟨G, M, v, f, rfl, S, hf, ok, q⟩ := h
    refine ⟨_, (pss_cons (xs_if (PW.pt (xw_or (pt_not (xt_truK K (pe_callB (call_isK K) (by rfl) T.m_isinstance (by decide +kernel) (pa_cons (xv 0) (pa_cons (pe_bltn (v := .ty "tuple") (by rfl) T.m_tuple (by decide +kernel) rfl) pa_nil))))) (pw_or1 (xt_cmp (op_eqK K hr.units) (pe_callB (cr_lenK K) (by rfl) T.m_len (by decide +kernel) (pa_cons (xv 0) pa_nil)) pe_int (nomark _)))))
      (pss_one (ps_ret pe_bl))
      pss_nil)
      (pss_cons (xs_if (PW.pt (xw_or (pt_not (xt_truK K (pe_callB (call_isK K) (by rfl) T.m_isinstance (by decide +kernel) (pa_cons (pe_ix (ix_k K) (xv 0) pe_int (fun _ _ => rfl)) (pa_cons (pe_bltn (v := .ty "str") (by rfl) T.m_str (by decide +kernel) rfl) pa_nil))))) (pw_or1 (xt_cmp (op_notIn_kd ⟨T.l_COUNTS, T.q_COUNTS, T.w_COUNTS⟩) (pe_ix (ix_k K) (xv 0) pe_int (fun _ _ => rfl)) (pe_glob (v := .ref T.D_COUNTS) (by rfl) T.g_COUNTS rfl) (by rfl)))))
      (pss_one (ps_ret pe_bl))
      pss_nil)
      (pss_cons (xs_if (xt_cmp (op_neK K hr.units) (pe_callB (cr_lenK K) (by rfl) T.m_len (by decide +kernel) (pa_cons (xv 0) pa_nil)) (pe_ix ix_kdict (pe_glob (v := .ref T.D_COUNTS) (by rfl) T.g_COUNTS rfl) (pe_ix (ix_k K) (xv 0) pe_int (fun _ _ => rfl)) (fun _ _ => rfl)) (nomark _))
      (pss_one (ps_ret pe_bl))
      pss_nil)
      (pss_cons (xs_if (xt_cmp (op_eqK K hr.units) (pe_ix (ix_k K) (xv 0) pe_int (fun _ _ => rfl)) pe_str (nomark _))
      (pss_one (ps_ret (pe_call G_is_number (hr.mono (by omega)) (by rfl) T.g_is_number T.F_is_number.kp T.b_is_number .nil pass0 (pa_cons (pe_ix (ix_k K) (xv 0) pe_int (fun _ _ => rfl)) (pa_cons pe_int (pa_cons pe_int pa_nil))))))
      pss_nil)
      (pss_cons (xs_if (xt_cmp (op_eqK K hr.units) (pe_ix (ix_k K) (xv 0) pe_int (fun _ _ => rfl)) pe_str (nomark _))
      (pss_one (ps_ret (pe_call G_is_name (hr.mono (by omega)) (by rfl) T.g_is_name T.F_is_name.kp T.b_is_name .nil pass0 (pa_cons (pe_ix (ix_k K) (xv 0) pe_int (fun _ _ => rfl)) pa_nil))))
      pss_nil)
      (pss_one (ps_ret pe_bl))))))), ?_⟩
    have sr := Same.refl G
    cases hf with
    | is hp =>
      have h1 := SqT.of (K := K) (S.st hp)
      obtain ⟨t0, k0⟩ := T.k_COUNTS_0
      refine ⟨_, _, _, _, true, rfl, .ty _, .base (.tup (S.st hp)), kit_ty (by decide +kernel), ff, fun _ => ⟨_, .inr h1, fun e => (nomatch e), fun _ => ?_⟩⟩
      refine ⟨_, _, .inr h1, rfl, _, _, _, _, true, rfl, .ty _, .base (.str _), kit_ty (by decide +kernel), ff, fun _ => ⟨_, _, .inr h1, rfl, _, _, rfl, rfl, k0, ff, fun _ => ?_⟩⟩
      refine ⟨_, .inr h1, _, _, .inr h1, rfl, _, _, .int 2, rfl, rfl, ⟨_, _, _, T.l_COUNTS, T.q_COUNTS, k0, ⟨_, rfl⟩⟩, fun e => (nomatch e), fun _ => ?_⟩
      refine ⟨_, _, .inr h1, rfl, fun _ => ⟨_, _, .inr h1, rfl, _, _, _, rfl, ok.1, ok.2, q G H sr S⟩, we⟩
    | get hp =>
      have h1 := SqT.of (K := K) (S.st hp)
      obtain ⟨t0, k0⟩ := T.k_COUNTS_1
      refine ⟨_, _, _, _, true, rfl, .ty _, .base (.tup (S.st hp)), kit_ty (by decide +kernel), ff, fun _ => ⟨_, .inr h1, fun e => (nomatch e), fun _ => ?_⟩⟩
      refine ⟨_, _, .inr h1, rfl, _, _, _, _, true, rfl, .ty _, .base (.str _), kit_ty (by decide +kernel), ff, fun _ => ⟨_, _, .inr h1, rfl, _, _, rfl, rfl, k0, ff, fun _ => ?_⟩⟩
      refine ⟨_, .inr h1, _, _, .inr h1, rfl, _, _, .int 2, rfl, rfl, ⟨_, _, _, T.l_COUNTS, T.q_COUNTS, k0, ⟨_, rfl⟩⟩, fun e => (nomatch e), fun _ => ?_⟩
      refine ⟨_, _, .inr h1, rfl, fun e => wd e, fun _ => ⟨_, _, .inr h1, rfl, fun _ => ⟨_, _, .inr h1, rfl, G, M, _, rfl, S, ok, q⟩, we⟩⟩
    | sum hp h2 h3 =>
      have h1 := SqT.of (K := K) (S.st hp)
      obtain ⟨t0, k0⟩ := T.k_COUNTS_2
      refine ⟨_, _, _, _, true, rfl, .ty _, .base (.tup (S.st hp)), kit_ty (by decide +kernel), ff, fun _ => ⟨_, .inr h1, fun e => (nomatch e), fun _ => ?_⟩⟩
      refine ⟨_, _, .inr h1, rfl, _, _, _, _, true, rfl, .ty _, .base (.str _), kit_ty (by decide +kernel), ff, fun _ => ⟨_, _, .inr h1, rfl, _, _, rfl, rfl, k0, ff, fun _ => ?_⟩⟩
      refine ⟨_, .inr h1, _, _, .inr h1, rfl, _, _, .int 3, rfl, rfl, ⟨_, _, _, T.l_COUNTS, T.q_COUNTS, k0, ⟨_, rfl⟩⟩, fun e => (nomatch e), fun _ => ?_⟩
      refine ⟨_, _, .inr h1, rfl, fun e => wd e, fun _ => ⟨_, _, .inr h1, rfl, fun e => wd e, fun _ => q G H sr S⟩⟩
    | same hp h2 h3 =>
      have h1 := SqT.of (K := K) (S.st hp)
      obtain ⟨t0, k0⟩ := T.k_COUNTS_3
      refine ⟨_, _, _, _, true, rfl, .ty _, .base (.tup (S.st hp)), kit_ty (by decide +kernel), ff, fun _ => ⟨_, .inr h1, fun e => (nomatch e), fun _ => ?_⟩⟩
      refine ⟨_, _, .inr h1, rfl, _, _, _, _, true, rfl, .ty _, .base (.str _), kit_ty (by decide +kernel), ff, fun _ => ⟨_, _, .inr h1, rfl, _, _, rfl, rfl, k0, ff, fun _ => ?_⟩⟩
      refine ⟨_, .inr h1, _, _, .inr h1, rfl, _, _, .int 3, rfl, rfl, ⟨_, _, _, T.l_COUNTS, T.q_COUNTS, k0, ⟨_, rfl⟩⟩, fun e => (nomatch e), fun _ => ?_⟩
      refine ⟨_, _, .inr h1, rfl, fun e => wd e, fun _ => ⟨_, _, .inr h1, rfl, fun e => wd e, fun _ => q G H sr S⟩⟩
    | pick hp h2 h3 h4 =>
      have h1 := SqT.of (K := K) (S.st hp)
      obtain ⟨t0, k0⟩ := T.k_COUNTS_4
      refine ⟨_, _, _, _, true, rfl, .ty _, .base (.tup (S.st hp)), kit_ty (by decide +kernel), ff, fun _ => ⟨_, .inr h1, fun e => (nomatch e), fun _ => ?_⟩⟩
      refine ⟨_, _, .inr h1, rfl, _, _, _, _, true, rfl, .ty _, .base (.str _), kit_ty (by decide +kernel), ff, fun _ => ⟨_, _, .inr h1, rfl, _, _, rfl, rfl, k0, ff, fun _ => ?_⟩⟩
      refine ⟨_, .inr h1, _, _, .inr h1, rfl, _, _, .int 4, rfl, rfl, ⟨_, _, _, T.l_COUNTS, T.q_COUNTS, k0, ⟨_, rfl⟩⟩, fun e => (nomatch e), fun _ => ?_⟩
      refine ⟨_, _, .inr h1, rfl, fun e => wd e, fun _ => ⟨_, _, .inr h1, rfl, fun e => wd e, fun _ => q G H sr S⟩⟩

end
end K26
set_option Elab.async false
set_option linter.all false
set_option maxRecDepth 100000
set_option maxHeartbeats 4000000
namespace K26
open PySem PySem.Spec PyProof.Rows L2 XL
section
variable {P : Program} {w : World} {K : PySem.W.Frag} {mg : Str → Option Value} {base : Heap}
/-- a promise that asks what cannot be -/
theorem fn_false {f : Addr} {fd : FuncData} {ps : List Str} {sp : Sp} {k : Nat} (h : ∀ vs H Q E, ¬ sp vs H Q E) : FnOk P w K mg base CX0 k f fd ps sp :=
  ⟨fun vs H Q E z => absurd z (h vs H Q E), fun A outer s H args us vs Q E _ _ _ _ z => absurd z (h vs H Q E)⟩
def spValue (d : Nat) : Sp := fun vs H Q _ => ∃ (G : Hp) (M : List (Addr × HO)) (v : V) (f : Fm) (e : Addr) (i j : Int), vs = [v, .ref e] ∧ Sep G M H ∧ FmAt G v f ∧ f.ok ∧ f.dep ≤ d ∧ H e = some (.dK (env2 i j)) ∧ Q (.int (f.val i j)) H
theorem ok_value_of (T : Top K mg w) : ∀ d : Nat, FnOk P w K mg base CX0 (d + 1) T.a_value_of T.d_value_of ["parts", "values"] (spValue d)
  | 0 => fn_false fun vs H Q E h => by
    obtain ⟨G, M, v, f, e, i, j, _, _, _, _, hd, _⟩ := h
    have := f.dep_pos
    omega
  | d + 1 => by
    have G_value_of := ok_value_of T d
    refine T.F_value_of.ok sc_value_of (fun vs H Q E h => ?_) (fun cdv A outer s H vs Q E hr h => ?_)
    · obtain ⟨G, M, v, f, e, i, j, rfl, _⟩ := h
      rfl
    · obtain ⟨G, M, v, f, e, i, j, rfl, S, hf, ok, hd, he, q⟩ := h
      refine ⟨_, (pss_cons (xs_if (xt_cmp (op_eqK K hr.units) (pe_ix (ix_k K) (xv 0) pe_int (fun _ _ => rfl)) pe_str (nomark _))
      (pss_one (ps_ret (pe_ix (ix_k K) (xv 0) pe_int (fun _ _ => rfl))))
      pss_nil)
      (pss_cons (xs_if (xt_cmp (op_eqK K hr.units) (pe_ix (ix_k K) (xv 0) pe_int (fun _ _ => rfl)) pe_str (nomark _))
      (pss_cons (xs_if (pt_cmp (pc_dnotin (hu_of hr) (pe_ix (ix_k K) (xv 0) pe_int (fun _ _ => rfl)) (xv 1)))
      (pss_one ps_never)
      pss_nil)
      (pss_one (ps_ret (pe_dget (hu_of hr) (xv 1) (pe_ix (ix_k K) (xv 0) pe_int (fun _ _ => rfl)) (fun _ _ => rfl)))))
      pss_nil)
      (pss_cons (xs_if (xt_cmp (op_eqK K hr.units) (pe_ix (ix_k K) (xv 0) pe_int (fun _ _ => rfl)) pe_str (nomark _))
      (pss_cons (xs_if (xt_cmp (op_neK K hr.units) (pe_call G_value_of (hr.mono (by omega)) (by rfl) T.g_value_of T.F_value_of.kp T.b_value_of .nil pass0 (pa_cons (pe_ix (ix_k K) (xv 0) pe_int (fun _ _ => rfl)) (pa_cons (xv 1) pa_nil))) pe_int (nomark _))
      (pss_one (ps_ret (pe_call G_value_of (hr.mono (by omega)) (by rfl) T.g_value_of T.F_value_of.kp T.b_value_of .nil pass0 (pa_cons (pe_ix (ix_k K) (xv 0) pe_int (fun _ _ => rfl)) (pa_cons (xv 1) pa_nil)))))
      pss_nil)
      (pss_one (ps_ret (pe_call G_value_of (hr.mono (by omega)) (by rfl) T.g_value_of T.F_value_of.kp T.b_value_of .nil pass0 (pa_cons (pe_ix (ix_k K) (xv 0) pe_int (fun _ _ => rfl)) (pa_cons (xv 1) pa_nil))))))
      pss_nil)
      (pss_cons (ps_set (i := 2) sc_value_of.nd rfl (.inl rfl) (pe_call G_value_of (hr.mono (by omega)) (by rfl) T.g_value_of T.F_value_of.kp T.b_value_of .nil pass0 (pa_cons (pe_ix (ix_k K) (xv 0) pe_int (fun _ _ => rfl)) (pa_cons (xv 1) pa_nil))))
      (pss_cons (ps_set (i := 3) sc_value_of.nd rfl (.inl rfl) (pe_call G_value_of (hr.mono (by omega)) (by rfl) T.g_value_of T.F_value_of.kp T.b_value_of .nil pass0 (pa_cons (pe_ix (ix_k K) (xv 0) pe_int (fun _ _ => rfl)) (pa_cons (xv 1) pa_nil))))
      (pss_cons (xs_if (xt_cmp (op_eqK K hr.units) (pe_ix (ix_k K) (xv 0) pe_int (fun _ _ => rfl)) pe_str (nomark _))
      (pss_one (ps_ret (pe_op op_modY (pe_op op_addY (xv 2) (xv 3)) pe_int)))
      pss_nil)
      (pss_cons (xs_if (xt_cmp (op_eqK K hr.units) (xv 2) (xv 3) (nomark _))
      (pss_one (ps_ret pe_int))
      pss_nil)
      (pss_one (ps_ret pe_int))))))))), ?_⟩
      cases hf with
      | is hp =>
        have h1 := SqT.of (K := K) (S.st hp)
        exact ⟨_, _, .inr h1, rfl, fun _ => ⟨_, _, .inr h1, rfl, q⟩, we⟩
      | @get p x hp =>
        have h1 := SqT.of (K := K) (S.st hp)
        have hg : DGet H e (.str x) (some (.int (if x = "item" then i else j))) := by
          rw [← env_get i j ok]
          exact DGet.k (k := Sum.inr x) he
        exact ⟨_, _, .inr h1, rfl, fun e => wd e, fun _ => ⟨_, _, .inr h1, rfl, fun _ => ⟨_, _, .inr h1, rfl, e, _, rfl, hg, false, rfl, ff, fun _ => ⟨_, _, .inr h1, rfl, e, _, rfl, hg, q⟩⟩, we⟩⟩
      | sum hp h2 h3 =>
        have h1 := SqT.of (K := K) (S.st hp)
        have e1 : (Fm.sum _ _).dep ≤ d + 1 := hd
        simp only [Fm.dep] at e1
        refine ⟨_, _, .inr h1, rfl, fun e => wd e, fun _ => ⟨_, _, .inr h1, rfl, fun e => wd e, fun _ => ⟨_, _, .inr h1, rfl, fun e => wd e, fun _ => ?_⟩⟩⟩
        refine ⟨_, _, .inr h1, rfl, G, M, _, _, e, i, j, rfl, S, h2, ok.1, by omega, he, ?_⟩
        refine ⟨_, _, .inr h1, rfl, G, M, _, _, e, i, j, rfl, S, h3, ok.2, by omega, he, ?_⟩
        exact ⟨_, _, .inr h1, rfl, fun _ => ⟨by decide, fun r hr _ _ => hr ▸ q⟩, we⟩
      | same hp h2 h3 =>
        have h1 := SqT.of (K := K) (S.st hp)
        have e1 : (Fm.same _ _).dep ≤ d + 1 := hd
        simp only [Fm.dep] at e1
        refine ⟨_, _, .inr h1, rfl, fun e => wd e, fun _ => ⟨_, _, .inr h1, rfl, fun e => wd e, fun _ => ⟨_, _, .inr h1, rfl, fun e => wd e, fun _ => ?_⟩⟩⟩
        refine ⟨_, _, .inr h1, rfl, G, M, _, _, e, i, j, rfl, S, h2, ok.1, by omega, he, ?_⟩
        refine ⟨_, _, .inr h1, rfl, G, M, _, _, e, i, j, rfl, S, h3, ok.2, by omega, he, ?_⟩
        refine ⟨_, _, .inr h1, rfl, fun e => wd e, fun _ => ⟨fun e => ?_, fun e => ?_⟩⟩
        · simp only [Fm.val] at q
          rw [if_pos (of_decide_eq_true e)] at q
          exact q
        · simp only [Fm.val] at q
          rw [if_neg (of_decide_eq_false e)] at q
          exact q
      | pick hp h2 h3 h4 =>
        have h1 := SqT.of (K := K) (S.st hp)
        have e1 : (Fm.pick _ _ _).dep ≤ d + 1 := hd
        simp only [Fm.dep] at e1
        refine ⟨_, _, .inr h1, rfl, fun e => wd e, fun _ => ⟨_, _, .inr h1, rfl, fun e => wd e, fun _ => ⟨_, _, .inr h1, rfl, fun _ => ?_, we⟩⟩⟩
        refine ⟨_, _, .inr h1, rfl, G, M, _, _, e, i, j, rfl, S, h2, ok.1, by omega, he, fun e2 => ?_, fun e2 => ?_⟩
        · refine ⟨_, _, .inr h1, rfl, G, M, _, _, e, i, j, rfl, S, h3, ok.2.1, by omega, he, ?_⟩
          simp only [Fm.val] at q
          rw [if_neg (by simpa using e2)] at q
          exact q
        · refine ⟨_, _, .inr h1, rfl, G, M, _, _, e, i, j, rfl, S, h4, ok.2.2, by omega, he, ?_⟩
          simp only [Fm.val] at q
          rw [if_pos (by simpa using e2)] at q
          exact q
/-- the children of a form that is no leaf -/
def Kid (G : Hp) (n : Nat) (v : V) (c : Fm) : Prop := FmAt G v c ∧ c.ok ∧ c.dep < n
def sizes : List Fm → Nat
  | [] => 0
  | c :: r => c.size + sizes r
theorem FmAt.kids {G : Hp} {v : V} {f : Fm} (h : FmAt G v f) (ok : f.ok) : (∃ p n, v = .ref p ∧ G p = some (.tup [.str "is", .int n]) ∧ f = .is n) ∨ (∃ p x, v = .ref p ∧ G p = some (.tup [.str "get", .str x]) ∧ f = .get x) ∨
    ∃ (p : Addr) (u : Str) (vs : List V) (cs : List Fm), v = .ref p ∧ G p = some (.tup (.str u :: vs)) ∧ Paired (Kid G f.dep) vs cs ∧ decide (u = "is") = false ∧ decide (u = "get") = false ∧ sizes cs + 1 = f.size ∧ 1 ≤ vs.length ∧ vs.length ≤ 3 := by
  cases h with
  | is h => exact .inl ⟨_, _, rfl, h, rfl⟩
  | get h => exact .inr (.inl ⟨_, _, rfl, h, rfl⟩)
  | @sum p v1 v2 a b h h1 h2 =>
    refine .inr (.inr ⟨p, "sum", [v1, v2], [a, b], rfl, h, .cons ⟨h1, ok.1, ?_⟩ (.cons ⟨h2, ok.2, ?_⟩ .nil), by decide +kernel, by decide +kernel, ?_, by simp, by simp⟩)
    · simp only [Fm.dep]; omega
    · simp only [Fm.dep]; omega
    · simp only [sizes, Fm.size]; omega
  | @same p v1 v2 a b h h1 h2 =>
    refine .inr (.inr ⟨p, "same", [v1, v2], [a, b], rfl, h, .cons ⟨h1, ok.1, ?_⟩ (.cons ⟨h2, ok.2, ?_⟩ .nil), by decide +kernel, by decide +kernel, ?_, by simp, by simp⟩)
    · simp only [Fm.dep]; omega
    · simp only [Fm.dep]; omega
    · simp only [sizes, Fm.size]; omega
  | @pick p v1 v2 v3 a b c h h1 h2 h3 =>
    refine .inr (.inr ⟨p, "pick", [v1, v2, v3], [a, b, c], rfl, h, .cons ⟨h1, ok.1, ?_⟩ (.cons ⟨h2, ok.2.1, ?_⟩ (.cons ⟨h3, ok.2.2, ?_⟩ .nil)), by decide +kernel, by decide +kernel, ?_, by simp, by simp⟩)
    · simp only [Fm.dep]; omega
    · simp only [Fm.dep]; omega
    · simp only [Fm.dep]; omega
    · simp only [sizes, Fm.size]; omega
theorem Kid.same {G G' : Hp} (e : Same G G') {n : Nat} {v : V} {c : Fm} (h : Kid G n v c) : Kid G' n v c := ⟨h.1.same' e, h.2⟩
theorem Fm.size_le (f : Fm) : f.size + 1 ≤ 3 ^ f.dep * 2 := by
  induction f with
  | is n => simp [Fm.size, Fm.dep]
  | get x => simp [Fm.size, Fm.dep]
  | sum a b ha hb =>
    simp only [Fm.size, Fm.dep]
    have h1 : 3 ^ a.dep ≤ 3 ^ max a.dep b.dep := Nat.pow_le_pow_right (by decide) (Nat.le_max_left _ _)
    have h2 : 3 ^ b.dep ≤ 3 ^ max a.dep b.dep := Nat.pow_le_pow_right (by decide) (Nat.le_max_right _ _)
    have h3 : 3 ^ (max a.dep b.dep + 1) = 3 ^ max a.dep b.dep * 3 := Nat.pow_succ ..
    omega
  | same a b ha hb =>
    simp only [Fm.size, Fm.dep]
    have h1 : 3 ^ a.dep ≤ 3 ^ max a.dep b.dep := Nat.pow_le_pow_right (by decide) (Nat.le_max_left _ _)
    have h2 : 3 ^ b.dep ≤ 3 ^ max a.dep b.dep := Nat.pow_le_pow_right (by decide) (Nat.le_max_right _ _)
    have h3 : 3 ^ (max a.dep b.dep + 1) = 3 ^ max a.dep b.dep * 3 := Nat.pow_succ ..
    omega
  | pick a b c ha hb hc =>
    simp only [Fm.size, Fm.dep]
    have h1 : 3 ^ a.dep ≤ 3 ^ max a.dep (max b.dep c.dep) := Nat.pow_le_pow_right (by decide) (Nat.le_max_left _ _)
    have h2 : 3 ^ b.dep ≤ 3 ^ max a.dep (max b.dep c.dep) := Nat.pow_le_pow_right (by decide) (by omega)
    have h2' : 3 ^ c.dep ≤ 3 ^ max a.dep (max b.dep c.dep) := Nat.pow_le_pow_right (by decide) (by omega)
    have h3 : 3 ^ (max a.dep (max b.dep c.dep) + 1) = 3 ^ max a.dep (max b.dep c.dep) * 3 := Nat.pow_succ ..
    omega
theorem Fm.size5 {f : Fm} (h : f.dep ≤ 5) : f.size ≤ 485 := by
  have h1 := f.size_le
  have h2 : 3 ^ f.dep ≤ 3 ^ 5 := Nat.pow_le_pow_right (by decide) h
  have h3 : 3 ^ 5 = 243 := rfl
  omega
/-! ### the names in a form -/
def Nms (xs : List V) : Prop := ∀ x ∈ xs, x = .str "item" ∨ x = .str "at"
theorem inV_str {x : Str} {xs : List V} (h : Nms xs) : inV (.str x) xs = decide (V.str x ∈ xs) := by
  unfold inV
  induction xs with
  | nil => rfl
  | cons y r ih =>
    rw [List.any_cons, ih fun z hz => h z (List.mem_cons_of_mem _ hz)]
    obtain ⟨z, rfl⟩ : ∃ z, y = .str z := by rcases h y List.mem_cons_self with h | h <;> exact ⟨_, h⟩
    show ((z == x) || decide (V.str x ∈ r)) = decide (V.str x ∈ V.str z :: r)
    by_cases e : x = z
    · subst e
      simp
    · have e2 : ¬ z = x := fun q => e q.symm
      simp [e, e2]
theorem nms_flat {xs : List V} (h : Nms xs) : xs.all flatV = true := by
  rw [List.all_eq_true]
  intro x hx
  rcases h x hx with rfl | rfl <;> rfl
theorem nms_len {xs : List V} (h : Nms xs) (nd : xs.Nodup) : xs.length ≤ 2 := by
  match xs, h, nd with
  | [], _, _ => simp
  | [_], _, _ => simp
  | [_, _], _, _ => simp
  | a :: b :: c :: r, h, nd =>
    exfalso
    simp only [List.nodup_cons, List.mem_cons, not_or] at nd
    obtain ⟨⟨h1, h2, _⟩, ⟨h3, _⟩, _⟩ := nd
    rcases h a (by simp) with rfl | rfl <;> rcases h b (by simp) with rfl | rfl <;> rcases h c (by simp) with rfl | rfl <;> first | exact h1 rfl | exact h2 rfl | exact h3 rfl
def spNames (d : Nat) : Sp := fun vs H Q _ => ∃ (G : Hp) (M : List (Addr × HO)) (v : V) (f : Fm), vs = [v] ∧ Sep G M H ∧ FmAt G v f ∧ f.ok ∧ f.dep ≤ d ∧
  ∀ (p : Addr) (xs : List V) (G' H' : Hp), Same G G' → Sep G' M H' → G' p = some (.tup xs) → Nms xs → xs.length ≤ 2 → Q (.ref p) H'
theorem cut_tl (x : V) (vs : List V) : cutV (x :: vs) (some 1) none = vs := by
  unfold cutV
  rw [show HT.sIx (x :: vs).length 0 (some 1) = min 1 (x :: vs).length from HT.sIx_nat _ 0 1, HT.sIx_none]
  rw [show min 1 (x :: vs).length = 1 by rw [List.length_cons]; omega]
  show (List.take ((x :: vs).length - 1) vs) = vs
  rw [List.length_cons, Nat.add_sub_cancel, List.take_length]
theorem ok_names_of (T : Top K mg w) : ∀ d : Nat, FnOk P w K mg base CX0 (d + 1) T.a_names_of T.d_names_of ["parts"] (spNames d)
  | 0 => fn_false fun vs H Q E h => by
    obtain ⟨G, M, v, f, _, _, _, _, hd, _⟩ := h
    have := f.dep_pos
    omega
  | d + 1 => by
    have G_names_of := ok_names_of T d
    refine T.F_names_of.ok sc_names_of (fun vs H Q E h => ?_) (fun cdv A outer s H vs Q E hr h => ?_)
    · obtain ⟨G, M, v, f, rfl, _⟩ := h
      rfl
    · obtain ⟨G, M, v, f, rfl, S, hf, ok, hd, q⟩ := h
      refine ⟨_, (pss_cons (xs_if (xt_cmp (op_eqK K hr.units) (pe_ix (ix_k K) (xv 0) pe_int (fun _ _ => rfl)) pe_str (nomark _))
      (pss_one (ps_ret (pe_tup pa_nil)))
      pss_nil)
      (pss_cons (xs_if (xt_cmp (op_eqK K hr.units) (pe_ix (ix_k K) (xv 0) pe_int (fun _ _ => rfl)) pe_str (nomark _))
      (pss_one (ps_ret (pe_tup (pa_cons (pe_ix (ix_k K) (xv 0) pe_int (fun _ _ => rfl)) pa_nil))))
      pss_nil)
      (pss_cons (ps_set (i := 1) sc_names_of.nd rfl (.inl rfl) (pe_lst pa_nil))
      (pss_cons (ps_for PassesOwn.never rfl (pi_tupK K (pe_slice sl_tup (xv 0) (po_some pe_int) po_none)) (pg_name (i := 2) sc_names_of.nd rfl (.inl rfl))
      (pss_one (ps_for PassesOwn.never rfl (pi_tupK K (pe_call G_names_of (hr.mono (by omega)) (by rfl) T.g_names_of T.F_names_of.kp T.b_names_of .nil pass0 (pa_cons (xv 2) pa_nil))) (pg_name (i := 3) sc_names_of.nd rfl (.inl rfl))
      (pss_one (xs_if (xt_cmp (notin_seqK K) (xv 3) (xv 1) (by rfl))
      (pss_one (ps_expr (pe_bmK K PySem.F.plainAttrs_list PySem.F.slot_list_append PySem.F.type_list_append mt_append (xv 1) (pa_cons (xv 3) pa_nil))))
      pss_nil)))))
      (pss_one (ps_ret (pe_callTy (call_tupleK K) (by rfl) T.m_tuple (by decide +kernel) (pa_cons (xv 1) pa_nil)))))))), ?_⟩
      rcases hf.kids ok with ⟨p, n, rfl, hp, rfl⟩ | ⟨p, x, rfl, hp, rfl⟩ | ⟨p, u, vs, cs, rfl, hp, hk, u1, u2, _, v1, v3⟩
      · have h1 := SqT.of (K := K) (S.st hp)
        exact ⟨_, _, .inr h1, rfl, fun _ => ⟨sz, fun t nt => q t [] _ _ (S.grow nt) (S.newG nt) upd_same (fun _ h => nomatch h) (by decide)⟩, we⟩
      · have h1 := SqT.of (K := K) (S.st hp)
        refine ⟨_, _, .inr h1, rfl, fun e => wd e, fun _ => ⟨_, _, .inr h1, rfl, fun _ => ⟨_, _, .inr h1, rfl, sz, fun t nt => q t [.str x] _ _ (S.grow nt) (S.newG nt) upd_same (fun y h => ?_) (by simp)⟩, we⟩⟩
        rw [List.mem_singleton.mp h]
        rcases ok with rfl | rfl
        · exact .inl rfl
        · exact .inr rfl
      · have h1 := SqT.of (K := K) (S.st hp)
        refine ⟨_, .str u, .inr h1, at0, fun e => wd e u1, fun _ => ⟨_, .str u, .inr h1, at0, fun e => wd e u2, fun _ => ?_⟩⟩
        refine ⟨sz, fun L nL => ?_⟩
        have S1 := S.new (o := .lst []) nL
        refine ⟨1, rfl, p, _, rfl, SqT.of (S1.st hp), ?_, fun t nt => ?_⟩
        · rintro ⟨z, _⟩
          rw [show HT.sIx (V.str u :: vs).length 0 (some 1) = min 1 (V.str u :: vs).length from HT.sIx_nat _ 0 1, List.length_cons] at z
          omega
        · rw [cut_tl] at *
          have S2 := S1.newG (o := .tup vs) nt
          have s2 := S1.grow (o := .tup vs) nt
          refine ⟨t, rfl, ⟨vs, SqT.of (S2.st upd_same)⟩, for_tup (xs := vs) (fun i σ H' => ∃ (y2 y3 : Option V) (G' : Hp) (xs : List V), σ = [some (.ref p), some (.ref L), y2, y3] ∧ Same (upd G t (.tup vs)) G' ∧ Sep G' ((L, .lst xs) :: M) H' ∧ Nms xs ∧ xs.Nodup)
            ⟨_, _, _, [], rfl, Same.refl _, S2, (fun _ h => nomatch h), List.nodup_nil⟩ (fun i σ H' _ h => ?_) (fun i x σ H' hx h => ?_) (fun σ H' h => ?_)⟩
          · obtain ⟨_, _, G', _, _, s3, S3, _⟩ := h
            exact SqT.of (S3.st (s3 _ _ upd_same))
          · obtain ⟨y2, y3, G', xs, rfl, s3, S3, nm, nd⟩ := h
            obtain ⟨c, _, hc, okc, dc⟩ := prd_get hk hx
            refine ⟨G', _, _, c, rfl, S3, hc.same' (s2.trans s3), okc, by omega, fun r ns G2 H2 s4 S4 hr nms nl => ?_⟩
            refine ⟨r, rfl, ⟨ns, SqT.of (S4.st hr)⟩, for_tup (xs := ns) (fun i σ H' => ∃ (y3 : Option V) (xs : List V), σ = [some (.ref p), some (.ref L), some x, y3] ∧ Sep G2 ((L, .lst xs) :: M) H' ∧ Nms xs ∧ xs.Nodup)
              ⟨_, xs, rfl, S4, nm, nd⟩ (fun i σ H' _ h => ?_) (fun i y σ H' hy h => ?_) (fun σ H' h => ?_)⟩
            · obtain ⟨_, _, _, S5, _⟩ := h
              exact SqT.of (S5.st hr)
            · obtain ⟨y3, xs, rfl, S5, nm, nd⟩ := h
              have hm : y = .str "item" ∨ y = .str "at" := nms y (List.mem_of_getElem? hy)
              obtain ⟨z, rfl⟩ : ∃ z, y = .str z := by rcases hm with h | h <;> exact ⟨_, h⟩
              have hz := nms_len nm nd
              refine ⟨L, xs, rfl, .inl (SqL.of S5.hd), rfl, nms_flat nm, fun e => ?_, fun e => ?_⟩
              · have hn : V.str z ∉ xs := by
                  have e2 : (!inV (.str z) xs) = true := e
                  rw [inV_str nm] at e2
                  simpa using e2
                refine ⟨.inl ⟨rfl, _, SqL.of S5.hd⟩, L, xs, _, rfl, rfl, S5.hd, smallL (by omega), ?_⟩
                refine ⟨_, xs ++ [.str z], rfl, S5.set, fun a ha => ?_, ?_⟩
                · rcases List.mem_append.mp ha with ha | ha
                  · exact nm a ha
                  · rw [List.mem_singleton.mp ha]
                    exact hm
                · rw [List.nodup_append]
                  refine ⟨nd, by simp, fun a ha b hb => ?_⟩
                  rw [List.mem_singleton.mp hb]
                  rintro rfl
                  exact hn ha
              · exact ⟨_, xs, rfl, S5, nm, nd⟩
            · obtain ⟨y3, xs, rfl, S5, nm, nd⟩ := h
              exact ⟨_, _, G2, xs, rfl, s3.trans s4, S5, nm, nd⟩
          · obtain ⟨y2, y3, G', xs, rfl, s3, S3, nm, nd⟩ := h
            have hz := nms_len nm nd
            refine ⟨L, xs, rfl, .inl ⟨SqL.of S3.hd, fun r nr => ?_⟩⟩
            have S4 := S3.frz
            exact q r xs _ _ ((s2.trans s3).trans (S3.frzS.trans (S4.grow nr))) (S4.newG nr) upd_same nm hz

end
end K26
set_option Elab.async false
set_option linter.all false
set_option maxRecDepth 100000
set_option maxHeartbeats 4000000
namespace K26
open PySem PySem.Spec PyProof.Rows L2 XL
section
variable {P : Program} {w : World} {K : PySem.W.Frag} {mg : Str → Option Value} {base : Heap}
/-! ### check_form -/
def Wt (G : Hp) (v : V) (c : Fm × Int) : Prop := ∃ (t : Addr) (u : V), v = .ref t ∧ G t = some (.tup [u, .int c.2]) ∧ FmAt G u c.1 ∧ c.1.ok ∧ c.2 + c.1.dep ≤ 6
theorem Wt.same {G G' : Hp} (e : Same G G') {v : V} {c : Fm × Int} (h : Wt G v c) : Wt G' v c := by
  obtain ⟨t, u, h1, h2, h3, h4⟩ := h
  exact ⟨t, u, h1, e _ _ h2, h3.same' e, h4⟩
def wsz : List (Fm × Int) → Nat
  | [] => 0
  | c :: r => c.1.size + wsz r
theorem wsz_app : ∀ (a b : List (Fm × Int)), wsz (a ++ b) = wsz a + wsz b
  | [], b => by simp [wsz]
  | c :: r, b => by simp only [List.cons_append, wsz, wsz_app r b]; omega
theorem wsz_len : ∀ (a : List (Fm × Int)), a.length ≤ wsz a
  | [] => by simp
  | c :: r => by
    have h1 := wsz_len r
    have h2 := c.1.size_pos
    simp only [List.length_cons, wsz]
    omega
theorem sizes_rev : ∀ (cs : List Fm) (l : Int), wsz (cs.reverse.map fun c => (c, l)) = sizes cs
  | [], _ => rfl
  | c :: r, l => by
    rw [List.reverse_cons, List.map_append, wsz_app, sizes_rev r l]
    simp only [List.map_cons, List.map_nil, wsz, sizes]
    omega
def spCheck : Sp := fun vs H Q _ => ∃ (G : Hp) (M : List (Addr × HO)) (v : V) (f : Fm), vs = [v] ∧ Sep G M H ∧ FmAt G v f ∧ f.ok ∧ f.dep ≤ 5 ∧ ∀ G' H', Same G G' → Sep G' M H' → Q .non H'
theorem ok_check_form (T : Top K mg w) {k : Nat} (G_is_part : FnOk P w K mg base CX0 k T.a_is_part T.d_is_part ["part"] (spPart K)) :
    FnOk P w K mg base CX0 (k + 1) T.a_check_form T.d_check_form ["parts"] spCheck := by
  refine T.F_check_form.ok sc_check_form (fun vs H Q E h => ?_) (fun cdv A outer s H vs Q E hr h => ?_)
  · obtain ⟨G, M, v, f, rfl, _⟩ := h
    rfl
  · obtain ⟨G, M, v, f, rfl, S, hf, ok, hd, q⟩ := h
    refine ⟨_, (pss_cons (ps_set (i := 1) sc_check_form.nd rfl (.inl rfl) (pe_lst (pa_cons (pe_tup (pa_cons (xv 0) (pa_cons pe_int pa_nil))) pa_nil)))
      (pss_cons (ps_set (i := 2) sc_check_form.nd rfl (.inl rfl) pe_int)
      (pss_cons (xs_while PassesOwn.never (xt_truK K (xv 1))
      (pss_cons (ps_asg (pe_bm0 PySem.F.plainAttrs_list PySem.F.slot_list_pop PySem.F.type_list_pop mt_pop (xv 1)) (pg_tupK K 2 (pgs_cons (pg_name (i := 3) sc_check_form.nd rfl (.inl rfl)) (pgs_cons (pg_name (i := 4) sc_check_form.nd rfl (.inl rfl)) pgs_nil))))
      (pss_cons (xs_if (pt_not (xt_truK K (pe_call G_is_part (hr.mono (by omega)) (by rfl) T.g_is_part T.F_is_part.kp T.b_is_part .nil pass0 (pa_cons (xv 3) pa_nil))))
      (pss_one ps_never)
      pss_nil)
      (xss_cut (xs_if (xt_cmp op_gtY (xv 4) (xv 2) (nomark _))
      (pss_one (ps_set (i := 2) sc_check_form.nd rfl (.inl rfl) (xv 4)))
      pss_nil)
      (pss_one (xs_if (PW.pt (xw_and (xt_cmp (op_neK K hr.units) (pe_ix (ix_k K) (xv 3) pe_int (fun _ _ => rfl)) pe_str (nomark _)) (pw_and1 (xt_cmp (op_neK K hr.units) (pe_ix (ix_k K) (xv 3) pe_int (fun _ _ => rfl)) pe_str (nomark _)))))
      (pss_one (ps_for PassesOwn.never rfl (pi_range3 (by rfl) T.m_range (pa_cons (pe_op op_subY (pe_callB (cr_lenK K) (by rfl) T.m_len (by decide +kernel) (pa_cons (xv 3) pa_nil)) pe_int) (pa_cons pe_int (pa_cons (pe_un un_neg pe_int) pa_nil)))) (pg_name (i := 5) sc_check_form.nd rfl (.inl rfl))
      (pss_one (ps_expr (pe_bmK K PySem.F.plainAttrs_list PySem.F.slot_list_append PySem.F.type_list_append mt_append (xv 1) (pa_cons (pe_tup (pa_cons (pe_ix (ix_k K) (xv 3) (xv 5) (fun _ _ => rfl)) (pa_cons (pe_op op_addY (xv 4) pe_int) pa_nil))) pa_nil))))))
      pss_nil))))))
      (pss_one (xs_if (xt_cmp op_gtY (xv 2) (xe_globI (by rfl) T.v_MOST_LEVELS) (nomark _))
      (pss_one ps_never)
      pss_nil))))), ?_⟩
    refine ⟨sz, fun t nt => ⟨sz, fun L nL => ?_⟩⟩
    have S1 := S.newG (o := .tup [v, .int 1]) nt
    have s1 := S.grow (o := .tup [v, .int 1]) nt
    have S2 := S1.new (o := .lst [.ref t]) nL
    refine ⟨fun m σ H' => ∃ (y3 y4 y5 : Option V) (ds : Int) (G' : Hp) (ws : List V) (cs : List (Fm × Int)), σ = [some v, some (.ref L), some (.int ds), y3, y4, y5] ∧ Same G G' ∧ Sep G' ((L, .lst ws) :: M) H' ∧ Paired (Wt G') ws cs ∧ ds ≤ 5 ∧ m = wsz cs ∧ m ≤ 485,
      ⟨f.size, _, _, _, 1, _, [.ref t], [(f, 1)], rfl, s1, S2, .cons ⟨t, v, rfl, upd_same, hf.same' s1, ok, by show (1 : Int) + f.dep ≤ 6; omega⟩ .nil, by decide, by simp [wsz], Fm.size5 hd⟩, fun m σ H' h => ?_⟩
    obtain ⟨y3, y4, y5, ds, G', ws, cs, rfl, s3, S3, hw, hds, rfl, hm⟩ := h
    refine ⟨!ws.isEmpty, .inl ⟨ws, SqL.of S3.hd, rfl⟩, fun e => ?_, fun e => ?_⟩
    · rcases nil_or_snoc ws with rfl | ⟨wp, x, rfl⟩
      · exact nomatch e
      obtain ⟨cp, c, rfl, hwp, t1, u, rfl, ht1, hu, oku, du⟩ := prd_unsnoc hw
      have S4 := S3.set (o' := .lst wp)
      -- part, level = waiting.pop()
      refine ⟨.inl ⟨rfl, _, SqL.of S3.hd⟩, L, wp ++ [.ref t1], .ref t1, rfl, rfl, S3.hd, by simp, ?_⟩
      rw [List.dropLast_concat]
      refine ⟨t1, _, rfl, SqT.of (S4.st ht1), rfl, _, _, rfl, _, _, rfl, rfl, ?_⟩
      refine ⟨G', _, u, c.1, rfl, S4, hu, oku, fun G5 H5 s5 S5 => ⟨ff, fun _ => ?_⟩⟩
      have hwp5 : Paired (Wt G5) wp cp := prd_imp (fun _ _ => Wt.same s5) hwp
      have hu5 := hu.same' s5
      have hdc := c.1.dep_pos
      have esz : wsz (cp ++ [c]) = wsz cp + c.1.size := by rw [wsz_app]; simp [wsz]
      have hcs := c.1.size_pos
      refine ⟨fun σ H6 => ∃ ds' : Int, ds' ≤ 5 ∧ σ = [some v, some (.ref L), some (.int ds'), some u, some (.int c.2), y5] ∧ H6 = H5, ⟨fun e => ⟨c.2, by omega, rfl, rfl⟩, fun e => ⟨ds, hds, rfl, rfl⟩⟩, fun σ H6 h => ?_⟩
      obtain ⟨ds', hds', rfl, rfl⟩ := h
      have stop : ∃ m', m' < wsz (cp ++ [c]) ∧ ∃ (y3 y4 y5' : Option V) (ds : Int) (G' : Hp) (ws : List V) (cs : List (Fm × Int)), ([some v, some (.ref L), some (.int ds'), some u, some (.int c.2), y5] : List (Option V)) = [some v, some (.ref L), some (.int ds), y3, y4, y5'] ∧
          Same G G' ∧ Sep G' ((L, .lst ws) :: M) H6 ∧ Paired (Wt G') ws cs ∧ ds ≤ 5 ∧ m' = wsz cs ∧ m' ≤ 485 := ⟨wsz cp, by omega, _, _, _, ds', G5, wp, cp, rfl, s3.trans s5, S5, hwp5, hds', rfl, by omega⟩
      rcases hu5.kids oku with ⟨p, n, rfl, hp, _⟩ | ⟨p, n, rfl, hp, _⟩ | ⟨p, n, vs, ks, rfl, hp, hk, u1, u2, hsz, v1, v3⟩
      · have h1 := SqT.of (K := K) (S5.st hp)
        exact ⟨_, _, .inr h1, rfl, fun e => wm e, fun _ => ⟨ff, fun _ => stop⟩⟩
      · have h1 := SqT.of (K := K) (S5.st hp)
        exact ⟨_, _, .inr h1, rfl, fun _ => ⟨_, _, .inr h1, rfl, fun e => wm e, fun _ => stop⟩, fun e => wn e⟩
      · have h1 := SqT.of (K := K) (S5.st hp)
        refine ⟨_, .str n, .inr h1, at0, fun _ => ⟨_, .str n, .inr h1, at0, fun _ => ?_, fun e => wn e u2⟩, fun e => wn e u1⟩
        refine ⟨_, .inr h1, 1, rfl, (vs.length : Int), 0, -1, vs.length, ?_, ?_, for_rangeC (lo := (vs.length : Int)) (c := -1) (n := vs.length) (fun i σ H' => ∃ (y5 : Option V) (G' : Hp) (ns : List V) (ms : List (Fm × Int)), σ = [some v, some (.ref L), some (.int ds'), some (.ref p), some (.int c.2), y5] ∧
          Same G5 G' ∧ Sep G' ((L, .lst (wp ++ ns)) :: M) H' ∧ Paired (Wt G') ns ms ∧ ms = (ks.reverse.map fun k => (k, c.2 + 1)).take i) ?_ (fun i σ H' hi h => ?_) (fun σ H' h => ?_)⟩
        · have e1 : (((V.str n :: vs).length : Nat) : Int) - 1 = vs.length := by rw [List.length_cons]; omega
          show [V.int ((((V.str n :: vs).length : Nat) : Int) - 1), V.int 0, V.int (-1)] = _
          rw [e1]
        · have z := RgC.neg (i := (vs.length : Int)) (j := 0) (by omega) (by omega) (by omega) (by omega)
          have e1 : ((vs.length : Int) - 0).toNat = vs.length := by omega
          rw [e1] at z
          exact z
        · exact ⟨_, G5, [], [], rfl, Same.refl _, by rw [List.append_nil]; exact S5, .nil, rfl⟩
        · obtain ⟨y5, G6, ns, ms, rfl, s6, S6, hn, rfl⟩ := h
          have hkl := prd_len hk
          have hj : vs.length - 1 - i < vs.length := by omega
          have hx : vs[vs.length - 1 - i]? = some vs[vs.length - 1 - i] := List.getElem?_eq_getElem hj
          obtain ⟨kc, hkc, hkk⟩ := prd_get hk hx
          have hat : atI (V.str n :: vs) ((vs.length : Int) + (i : Nat) * (-1)) = some vs[vs.length - 1 - i] := by
            have e1 : (vs.length : Int) + (i : Nat) * (-1) = ((vs.length - i : Nat) : Int) := by omega
            rw [e1]
            refine atI_nat ?_
            have e2 : vs.length - i = (vs.length - 1 - i) + 1 := by omega
            rw [e2, List.getElem?_cons_succ]
            exact hx
          have hnl := prd_len hn
          have hml : ((ks.reverse.map fun k => (k, c.2 + 1)).take i).length ≤ 3 := by
            rw [List.length_take]
            omega
          have hwl := prd_len hwp5
          have hcl := wsz_len cp
          refine ⟨.inl ⟨rfl, _, SqL.of S6.hd⟩, _, _, .inr (SqT.of (S6.st (s6 _ _ hp))), hat, sz, fun d nd => ?_⟩
          have S7 := S6.newG (o := .tup [vs[vs.length - 1 - i], .int (c.2 + 1)]) nd
          have s7 := S6.grow (o := .tup [vs[vs.length - 1 - i], .int (c.2 + 1)]) nd
          refine ⟨L, _, _, rfl, rfl, S7.hd, ?_, ?_⟩
          · rw [List.length_append]
            exact smallL (by omega)
          · refine ⟨_, _, ns ++ [.ref d], _, rfl, s6.trans s7, by rw [← List.append_assoc]; exact S7.set, (prd_imp (fun _ _ => Wt.same s7) hn).snoc (b := (kc, c.2 + 1)) ⟨d, _, rfl, upd_same, (hkk.1.same' s6).same' s7, hkk.2.1, ?_⟩, ?_⟩
            · have z := hkk.2.2
              show c.2 + 1 + kc.dep ≤ 6
              omega
            · refine (XL.take_snoc ?_).symm
              rw [List.getElem?_map, List.getElem?_reverse (by omega)]
              have e3 : ks.length - 1 - i = vs.length - 1 - i := by omega
              rw [e3, hkc]
              rfl
        · obtain ⟨y5, G6, ns, ms, rfl, s6, S6, hn, rfl⟩ := h
          have hkl := prd_len hk
          have e1 : (ks.reverse.map fun k => (k, c.2 + 1)).take vs.length = ks.reverse.map fun k => (k, c.2 + 1) := List.take_of_length_le (by simp; omega)
          rw [e1] at hn
          have e2 : wsz (cp ++ ks.reverse.map fun k => (k, c.2 + 1)) = wsz cp + sizes ks := by rw [wsz_app, sizes_rev]
          exact ⟨wsz (cp ++ ks.reverse.map fun k => (k, c.2 + 1)), by omega, _, _, _, ds', G6, _, _, rfl, (s3.trans s5).trans s6, S6, prd_app (prd_imp (fun _ _ => Wt.same s6) hwp5) hn, hds', rfl, by omega⟩
    · refine ⟨fun e => ?_, fun e => ?_⟩
      · have z : (5 : Int) < ds := of_decide_eq_true e
        omega
      · exact q _ _ (s3.trans S3.frzS) S3.frz
/-! ### rows -/
structure RowOk (ns : List Int) : Prop where
  len : ns.length ≤ 5
  nd : ns.Nodup
  lo : ∀ n ∈ ns, 0 ≤ n ∧ n ≤ 9
theorem inV_int {x : Int} (xs : List Int) : inV (.int x) (xs.map V.int) = decide (x ∈ xs) := by
  unfold inV
  induction xs with
  | nil => rfl
  | cons y r ih =>
    rw [List.map_cons, List.any_cons, ih]
    show ((y == x) || decide (x ∈ r)) = decide (x ∈ y :: r)
    by_cases e : x = y
    · subst e; simp
    · have e2 : ¬ y = x := fun q => e q.symm
      simp [e, e2]
theorem ints_flat (xs : List Int) : (xs.map V.int).all flatV = true := by
  rw [List.all_eq_true]
  intro x hx
  obtain ⟨n, _, rfl⟩ := List.mem_map.mp hx
  rfl
def spRow (K : PySem.W.Frag) : Sp := fun vs H Q _ => ∃ (G : Hp) (M : List (Addr × HO)) (r : Addr) (ns : List Int), vs = [.ref r] ∧ Sep G M H ∧ Tu G r (ns.map V.int) ∧ RowOk ns ∧ ∀ G' H', Same G G' → Sep G' M H' → Q .non H'
theorem ok_check_row (T : Top K mg w) {k : Nat} : FnOk P w K mg base CX0 (k + 1) T.a_check_row T.d_check_row ["row"] (spRow K) := by
  refine T.F_check_row.ok sc_check_row (fun vs H Q E h => ?_) (fun cdv A outer s H vs Q E hr h => ?_)
  · obtain ⟨G, M, r, ns, rfl, _⟩ := h
    rfl
  · obtain ⟨G, M, r, ns, rfl, S, hr', ro, q⟩ := h
    refine ⟨_, (pss_cons (xs_if (PW.pt (xw_or (pt_not (xt_truK K (pe_callB (call_isK K) (by rfl) T.m_isinstance (by decide +kernel) (pa_cons (xv 0) (pa_cons (pe_bltn (v := .ty "tuple") (by rfl) T.m_tuple (by decide +kernel) rfl) pa_nil))))) (pw_or1 (xt_cmp op_gtY (pe_callB (cr_lenK K) (by rfl) T.m_len (by decide +kernel) (pa_cons (xv 0) pa_nil)) (xe_globI (by rfl) T.v_MOST_ITEMS) (nomark _)))))
      (pss_one ps_never)
      pss_nil)
      (pss_cons (ps_set (i := 1) sc_check_row.nd rfl (.inl rfl) (pe_lst pa_nil))
      (pss_one (ps_for PassesOwn.never rfl (pi_tupK K (xv 0)) (pg_name (i := 2) sc_check_row.nd rfl (.inl rfl))
      (pss_cons (xs_if (PW.pt (xw_or (pt_not (xt_truK K (pe_callB (call_isK K) (by rfl) T.m_isinstance (by decide +kernel) (pa_cons (xv 2) (pa_cons (pe_bltn (v := .ty "int") (by rfl) T.m_int (by decide +kernel) rfl) pa_nil))))) (pw_or1 (xt_truK K (pe_callB (call_isK K) (by rfl) T.m_isinstance (by decide +kernel) (pa_cons (xv 2) (pa_cons (pe_bltn (v := .ty "bool") (by rfl) T.m_bool (by decide +kernel) rfl) pa_nil)))))))
      (pss_one ps_never)
      pss_nil)
      (pss_cons (xs_if (PW.pt (xw_or (xt_cmp op_ltY (xv 2) pe_int (nomark _)) (xw_or (xt_cmp op_gtY (xv 2) pe_int (nomark _)) (pw_or1 (xt_cmp (in_seqK K) (xv 2) (xv 1) (by rfl))))))
      (pss_one ps_never)
      pss_nil)
      (pss_one (ps_expr (pe_bmK K PySem.F.plainAttrs_list PySem.F.slot_list_append PySem.F.type_list_append mt_append (xv 1) (pa_cons (xv 2) pa_nil)))))))))), ?_⟩
    have h1 := (hr'.same S.1).sq (K := K)
    refine ⟨_, _, _, _, true, rfl, .ty _, (hr'.same S.1).ty, kit_ty (by decide +kernel), ff, fun _ => ⟨_, .inr h1, fun e => ?_, fun _ => ?_⟩⟩
    · have z : (5 : Int) < ((ns.map V.int).length : Nat) := of_decide_eq_true e
      rw [List.length_map] at z
      have := ro.len
      omega
    · refine ⟨sz, fun L nL => ?_⟩
      have S1 := S.new (o := .lst []) nL
      refine ⟨r, rfl, ⟨_, (hr'.same S1.1).sq⟩, for_tup (xs := ns.map V.int) (fun i σ H' => ∃ y2, σ = [some (.ref r), some (.ref L), y2] ∧ Sep G ((L, .lst ((ns.take i).map V.int)) :: M) H') ⟨_, rfl, S1⟩ (fun i σ H' _ h => ?_) (fun i x σ H' hx h => ?_) (fun σ H' h => ?_)⟩
      · obtain ⟨_, _, S2⟩ := h
        exact (hr'.same S2.1).sq
      · obtain ⟨y2, rfl, S2⟩ := h
        rw [List.getElem?_map] at hx
        obtain ⟨n, hn, rfl⟩ := Option.map_eq_some_iff.mp hx
        have hnm : n ∈ ns := List.mem_of_getElem? hn
        have hnl := ro.lo n hnm
        have hni : n ∉ ns.take i := by
          intro hm
          have nd := ro.nd
          rw [(take_pre hn).1, List.nodup_append] at nd
          exact nd.2.2 n hm n (by simp) rfl
        refine ⟨_, _, _, _, true, rfl, .ty _, .base (.int _), kit_ty (by decide +kernel), ff, fun _ => ⟨_, _, _, _, false, rfl, .ty _, .base (.int _), kit_ty (by decide +kernel), ff, fun _ => ?_⟩⟩
        refine ⟨fun e => absurd (of_decide_eq_true e) (by omega), fun _ => ⟨fun e => absurd (of_decide_eq_true e) (by omega), fun _ => ⟨L, _, rfl, .inl (SqL.of S2.hd), rfl, ints_flat _, fun e => ?_, fun _ => ?_⟩⟩⟩
        · have e2 : inV (.int n) ((ns.take i).map V.int) = true := e
          rw [inV_int] at e2
          exact absurd (of_decide_eq_true e2) hni
        · refine ⟨.inl ⟨rfl, _, SqL.of S2.hd⟩, L, _, _, rfl, rfl, S2.hd, ?_, ?_⟩
          · rw [List.length_map, List.length_take]
            have := ro.len
            exact smallL (by omega)
          · refine ⟨_, rfl, ?_⟩
            rw [take_snoc hn, List.map_append]
            exact S2.set
      · obtain ⟨y2, rfl, S2⟩ := h
        exact q _ _ S2.frzS S2.frz

end
end K26
set_option Elab.async false
set_option linter.all false
set_option maxRecDepth 100000
set_option maxHeartbeats 4000000
namespace K26
open PySem PySem.Spec PyProof.Rows L2 XL
section
variable {P : Program} {w : World} {K : PySem.W.Frag} {mg : Str → Option Value} {base : Heap}
/-! ### idents -/
def Pr (G : Hp) (v : V) (p : Int × Int) : Prop := ∃ a, v = .ref a ∧ G a = some (.tup [.int p.1, .int p.2])
theorem Pr.same {G G' : Hp} (e : Same G G') {v : V} {p : Int × Int} (h : Pr G v p) : Pr G' v p := by
  obtain ⟨a, h1, h2⟩ := h
  exact ⟨a, h1, e _ _ h2⟩
def gv (f : Fm) (ns : List Int) (k : Nat) : Int := f.val (ns.getD k 0) k
def idt (f : Fm) (ns : List Int) (k : Nat) : Int × Int := (gv f ns k, (((List.range k).map (gv f ns)).count (gv f ns k) : Nat))
def ids (f : Fm) (ns : List Int) : List (Int × Int) := (List.range ns.length).map (idt f ns)
def spIdents (K : PySem.W.Frag) : Sp := fun vs H Q _ => ∃ (G : Hp) (M : List (Addr × HO)) (v : V) (f : Fm) (r : Addr) (ns : List Int), vs = [v, .ref r] ∧ Sep G M H ∧ FmAt G v f ∧ f.ok ∧ f.dep ≤ 5 ∧ Tu G r (ns.map V.int) ∧ ns.length ≤ 5 ∧
  ∀ (p : Addr) (ws : List V) (G' H' : Hp), Same G G' → Sep G' M H' → TupF G' p ws → Paired (Pr G') ws (ids f ns) → Q (.ref p) H'
theorem at_int {ns : List Int} {i : Nat} (h : i < ns.length) : atI (ns.map V.int) (i : Int) = some (.int (ns.getD i 0)) := by
  refine atI_nat ?_
  rw [List.getElem?_map, List.getElem?_eq_getElem h, List.getD_eq_getElem?_getD, List.getElem?_eq_getElem h]
  rfl
theorem ok_idents_of (T : Top K mg w) (G_value_of : FnOk P w K mg base CX0 6 T.a_value_of T.d_value_of ["parts", "values"] (spValue 5)) : FnOk P w K mg base CX0 7 T.a_idents_of T.d_idents_of ["parts", "row"] (spIdents K) := by
  refine T.F_idents_of.ok sc_idents_of (fun vs H Q E h => ?_) (fun cdv A outer s H vs Q E hr h => ?_)
  · obtain ⟨G, M, v, f, r, ns, rfl, _⟩ := h
    rfl
  · obtain ⟨G, M, v, f, r, ns, rfl, S, hf, ok, hd, hr', hl, q⟩ := h
    refine ⟨_, (pss_cons (ps_set (i := 2) sc_idents_of.nd rfl (.inl rfl) (pe_lst pa_nil))
      (pss_cons (ps_set (i := 3) sc_idents_of.nd rfl (.inl rfl) (pe_lst pa_nil))
      (pss_cons (ps_for PassesOwn.never rfl (pi_range1 (by rfl) T.m_range (pa_cons (pe_callB (cr_lenK K) (by rfl) T.m_len (by decide +kernel) (pa_cons (xv 1) pa_nil)) pa_nil)) (pg_name (i := 4) sc_idents_of.nd rfl (.inl rfl))
      (pss_cons (ps_set (i := 5) sc_idents_of.nd rfl (.inl rfl) (pe_call G_value_of (hr.mono (by omega)) (by rfl) T.g_value_of T.F_value_of.kp T.b_value_of .nil pass0 (pa_cons (xv 0) (pa_cons (pe_disp (pps_cons pe_str (pe_ix (ix_k K) (xv 1) (xv 4) (fun _ _ => rfl)) (pps_cons pe_str (xv 4) pps_nil)) (by rfl) (by rfl) (fun z => by cases z) (by decide)) pa_nil))))
      (pss_cons (ps_expr (pe_bmK K PySem.F.plainAttrs_list PySem.F.slot_list_append PySem.F.type_list_append mt_append (xv 3) (pa_cons (pe_tup (pa_cons (xv 5) (pa_cons (pe_bmK K PySem.F.plainAttrs_list PySem.F.slot_list_count PySem.F.type_list_count (mt_countK K) (xv 2) (pa_cons (xv 5) pa_nil)) pa_nil))) pa_nil)))
      (pss_one (ps_expr (pe_bmK K PySem.F.plainAttrs_list PySem.F.slot_list_append PySem.F.type_list_append mt_append (xv 2) (pa_cons (xv 5) pa_nil)))))))
      (pss_one (ps_ret (pe_callTy (call_tupleFK K) (by rfl) T.m_tuple (by decide +kernel) (pa_cons (xv 3) pa_nil))))))), ?_⟩
    refine ⟨sz, fun VL nV => ⟨sz, fun IL nI => ?_⟩⟩
    have S1 := S.new (o := .lst []) nV
    have S2 := (S1.new (o := .lst []) nI).sw
    refine ⟨_, .inr (hr'.same S2.1).sq, _, rfl, by simp, by simp; omega, ?_⟩
    rw [show (((ns.map V.int).length : Nat) : Int).toNat = ns.length by simp]
    refine for_range (lo := 0) (n := ns.length) (fun i σ H' => ∃ (y4 y5 : Option V) (G' : Hp) (ws : List V), σ = [some v, some (.ref r), some (.ref VL), some (.ref IL), y4, y5] ∧ Same G G' ∧
      Sep G' ((VL, .lst (((List.range i).map (gv f ns)).map V.int)) :: (IL, .lst ws) :: M) H' ∧ Paired (Pr G') ws ((List.range i).map (idt f ns))) ⟨_, _, G, [], rfl, Same.refl _, S2, .nil⟩ (fun i σ H' hi h => ?_) (fun σ H' h => ?_)
    · obtain ⟨y4, y5, G', ws, rfl, s3, S3, hw⟩ := h
      have hwl := prd_len hw
      rw [List.length_map, List.length_range] at hwl
      rw [Int.zero_add]
      intro d nd
      have S4 := S3.new (o := .dK []) nd
      refine ⟨_, _, .inr ((hr'.same s3).same S4.1).sq, at_int hi, S4.hd, [(.inr "item", .int (ns.getD i 0)), (.inr "at", .int i)], rfl, by simp, ?_⟩
      rw [env_merge]
      have S5 := S4.set (o' := .dK (env2 (ns.getD i 0) i))
      refine ⟨G', _, v, f, d, ns.getD i 0, i, rfl, S5, hf.same' s3, ok, hd, S5.hd, ?_⟩
      have S6 := S5.drop
      have S7 := S6.sw
      refine ⟨.inl ⟨rfl, _, SqL.of S7.hd⟩, .inl ⟨rfl, _, SqL.of S6.hd⟩, VL, (List.range i).map (gv f ns), f.val (ns.getD i 0) i, rfl, rfl, SqL.of S6.hd, sz, fun t nt => ?_⟩
      have S8 := S7.newG (o := .tup [.int (f.val (ns.getD i 0) i), .int (((List.range i).map (gv f ns)).count (f.val (ns.getD i 0) i) : Nat)]) nt
      have s8 := S7.grow (o := .tup [.int (f.val (ns.getD i 0) i), .int (((List.range i).map (gv f ns)).count (f.val (ns.getD i 0) i) : Nat)]) nt
      refine ⟨IL, ws, _, rfl, rfl, S8.hd, smallL (by omega), ?_⟩
      have S9 := (S8.set (o' := .lst (ws ++ [.ref t]))).sw
      refine ⟨.inl ⟨rfl, _, SqL.of S9.hd⟩, VL, _, _, rfl, rfl, S9.hd, ?_, ?_⟩
      · rw [List.length_map, List.length_map, List.length_range]
        exact smallL (by omega)
      · refine ⟨_, _, _, ws ++ [.ref t], rfl, s3.trans s8, ?_, ?_⟩
        · rw [List.range_succ, List.map_append, List.map_append]
          exact S9.set
        · rw [List.range_succ, List.map_append]
          exact (prd_imp (fun _ _ => Pr.same s8) hw).snoc ⟨t, rfl, upd_same⟩
    · obtain ⟨y4, y5, G', ws, rfl, s3, S3, hw⟩ := h
      have S4 := S3.drop
      refine ⟨IL, ws, rfl, .inl ⟨SqL.of S4.hd, fun t ob nt hob => ?_⟩⟩
      have S5 := S4.frz
      have z := S4.frzS.trans (S5.grow (o := .frz ob (.tup ws)) nt)
      exact q t ws _ _ (s3.trans z) (S5.newG nt) ⟨ob, hob, upd_same⟩ (prd_imp (fun _ _ => Pr.same z) hw)
/-! ### at most -/
def Cons (xs : List (Int × Int)) : Prop := ∀ p ∈ xs, ∀ q ∈ xs, p.1 = q.1 → p.2 = q.2
def rowT (f s : Fm) (i j : Nat) : Int × Int := (s.val i j, f.val i j)
def tabTo (f s : Fm) (i j : Nat) : List (Int × Int) := ((List.range i).flatMap fun a => (List.range 5).map (rowT f s a)) ++ (List.range j).map (rowT f s i)
def tab (f s : Fm) : List (Int × Int) := tabTo f s 10 0
theorem tab_row (f s : Fm) (i : Nat) : tabTo f s i 5 = tabTo f s (i + 1) 0 := by
  unfold tabTo
  rw [List.range_succ (n := i), List.flatMap_append]
  simp
theorem tab_step (f s : Fm) (i j : Nat) : tabTo f s i (j + 1) = tabTo f s i j ++ [rowT f s i j] := by
  unfold tabTo
  rw [List.range_succ (n := j), List.map_append, ← List.append_assoc]
  rfl
structure DI (kvs : List (Key × V)) (xs : List (Int × Int)) : Prop where
  cons : Cons xs
  at_ : ∀ p ∈ xs, valV kvs (.inl p.1) = some (.int p.2)
  of : ∀ k v, valV kvs (.inl k) = some v → ∃ p ∈ xs, p.1 = k
  len : kvs.length ≤ xs.length
theorem DI.nil : DI [] [] := ⟨fun _ h => (nomatch h), fun _ h => (nomatch h), fun _ _ h => (nomatch h), Nat.le_refl _⟩
theorem DI.old {kvs : List (Key × V)} {xs : List (Int × Int)} (d : DI kvs xs) {p : Int × Int} (h : valV kvs (.inl p.1) = some (.int p.2)) : DI kvs (xs ++ [p]) := by
  obtain ⟨q, hq, eq⟩ := d.of _ _ h
  have e2 : q.2 = p.2 := by
    have z := d.at_ q hq
    rw [eq, h] at z
    injection z with z
    injection z with z
    exact z.symm
  have cs : ∀ a ∈ xs ++ [p], a.1 = p.1 → a.2 = p.2 := fun a ha e => by
    rcases List.mem_append.mp ha with ha | ha
    · rw [d.cons a ha q hq (e.trans eq.symm), e2]
    · rw [List.mem_singleton.mp ha]
  refine ⟨fun a ha b hb e => ?_, fun a ha => ?_, fun k v hv => ?_, ?_⟩
  · rcases List.mem_append.mp ha with h1 | h1
    · rcases List.mem_append.mp hb with h2 | h2
      · exact d.cons a h1 b h2 e
      · rw [List.mem_singleton.mp h2] at e ⊢
        exact cs a ha e
    · rw [List.mem_singleton.mp h1] at e ⊢
      exact (cs b hb e.symm).symm
  · rcases List.mem_append.mp ha with ha | ha
    · exact d.at_ a ha
    · rw [List.mem_singleton.mp ha]
      exact h
  · obtain ⟨b, hb, e⟩ := d.of k v hv
    exact ⟨b, List.mem_append_left _ hb, e⟩
  · rw [List.length_append]
    exact Nat.le_trans d.len (Nat.le_add_right _ _)
theorem DI.new {kvs : List (Key × V)} {xs : List (Int × Int)} (d : DI kvs xs) {p : Int × Int} (h : valV kvs (.inl p.1) = none) : DI (putK kvs (.inl p.1) (.int p.2)) (xs ++ [p]) := by
  have no : ∀ a ∈ xs, a.1 ≠ p.1 := fun a ha e => by
    have z := d.at_ a ha
    rw [e, h] at z
    cases z
  refine ⟨fun a ha b hb e => ?_, fun a ha => ?_, fun k v hv => ?_, ?_⟩
  · rcases List.mem_append.mp ha with h1 | h1
    · rcases List.mem_append.mp hb with h2 | h2
      · exact d.cons a h1 b h2 e
      · rw [List.mem_singleton.mp h2] at e
        exact absurd e (no a h1)
    · rcases List.mem_append.mp hb with h2 | h2
      · rw [List.mem_singleton.mp h1] at e
        exact absurd e.symm (no b h2)
      · rw [List.mem_singleton.mp h1, List.mem_singleton.mp h2]
  · rcases List.mem_append.mp ha with ha | ha
    · rw [valV_put, if_neg (fun z => no a ha (Sum.inl.inj z))]
      exact d.at_ a ha
    · rw [List.mem_singleton.mp ha]
      rw [valV_put, if_pos rfl]
  · by_cases e : k = p.1
    · exact ⟨p, by simp, e.symm⟩
    · rw [valV_put, if_neg (fun z => e (Sum.inl.inj z))] at hv
      obtain ⟨b, hb, e⟩ := d.of k v hv
      exact ⟨b, List.mem_append_left _ hb, e⟩
  · rw [putK_new _ h, List.length_append, List.length_append]
    have := d.len
    simp
    omega
def spAtMost (K : PySem.W.Frag) : Sp := fun vs H Q _ => ∃ (G : Hp) (M : List (Addr × HO)) (v u : V) (f s : Fm), vs = [v, u] ∧ Sep G M H ∧ FmAt G v f ∧ f.ok ∧ f.dep ≤ 5 ∧ FmAt G u s ∧ s.ok ∧ s.dep ≤ 5 ∧
  ∀ (b : Bool) (G' H' : Hp), (b = true ↔ Cons (tab f s)) → Same G G' → Sep G' M H' → Q (.bl b) H'
theorem mem_tab {f s : Fm} {i j : Nat} (hi : i < 10) (hj : j < 5) : rowT f s i j ∈ tab f s := by
  unfold tab tabTo
  rw [List.mem_append]
  left
  rw [List.mem_flatMap]
  exact ⟨i, List.mem_range.mpr hi, List.mem_map.mpr ⟨j, List.mem_range.mpr hj, rfl⟩⟩
theorem mem_tabTo {f s : Fm} {i j : Nat} {p : Int × Int} (h : p ∈ tabTo f s i j) : ∃ a b, (a < i ∧ b < 5 ∨ a = i ∧ b < j) ∧ p = rowT f s a b := by
  unfold tabTo at h
  rcases List.mem_append.mp h with h | h
  · obtain ⟨a, ha, h⟩ := List.mem_flatMap.mp h
    obtain ⟨b, hb, rfl⟩ := List.mem_map.mp h
    exact ⟨a, b, .inl ⟨List.mem_range.mp ha, List.mem_range.mp hb⟩, rfl⟩
  · obtain ⟨b, hb, rfl⟩ := List.mem_map.mp h
    exact ⟨i, b, .inr ⟨rfl, List.mem_range.mp hb⟩, rfl⟩
theorem tab_sub {f s : Fm} {i j : Nat} (hi : i < 10) (hj : j < 5) {p : Int × Int} (h : p ∈ tabTo f s i j) : p ∈ tab f s := by
  obtain ⟨a, b, h, rfl⟩ := mem_tabTo h
  exact mem_tab (by omega) (by omega)
theorem tabTo_len (f s : Fm) (i j : Nat) : (tabTo f s i j).length = i * 5 + j := by
  unfold tabTo
  rw [List.length_append, List.length_map, List.length_range]
  congr 1
  induction i with
  | zero => rfl
  | succ i ih =>
    rw [List.range_succ (n := i), List.flatMap_append, List.length_append, ih]
    simp
    omega
theorem ok_at_most (T : Top K mg w) (G_value_of : FnOk P w K mg base CX0 6 T.a_value_of T.d_value_of ["parts", "values"] (spValue 5)) : FnOk P w K mg base CX0 7 T.a_at_most T.d_at_most ["first", "second"] (spAtMost K) := by
  refine T.F_at_most.ok sc_at_most (fun vs H Q E h => ?_) (fun cdv A outer s H vs Q E hr h => ?_)
  · obtain ⟨G, M, v, u, f, s, rfl, _⟩ := h
    rfl
  · obtain ⟨G, M, v, u, f, s', rfl, S, hf, okf, hdf, hs, oks, hds, q⟩ := h
    refine ⟨_, (pss_cons (ps_set (i := 2) sc_at_most.nd rfl (.inl rfl) pe_dnewK)
      (pss_cons (ps_for PassesOwn.never rfl (pi_range1 (by rfl) T.m_range (pa_cons pe_int pa_nil)) (pg_name (i := 3) sc_at_most.nd rfl (.inl rfl))
      (pss_one (ps_for PassesOwn.never rfl (pi_range1 (by rfl) T.m_range (pa_cons (xe_globI (by rfl) T.v_MOST_ITEMS) pa_nil)) (pg_name (i := 4) sc_at_most.nd rfl (.inl rfl))
      (pss_cons (ps_set (i := 5) sc_at_most.nd rfl (.inl rfl) (pe_call G_value_of (hr.mono (by omega)) (by rfl) T.g_value_of T.F_value_of.kp T.b_value_of .nil pass0 (pa_cons (xv 1) (pa_cons (pe_disp (pps_cons pe_str (xv 3) (pps_cons pe_str (xv 4) pps_nil)) (by rfl) (by rfl) (fun z => by cases z) (by decide)) pa_nil))))
      (pss_cons (ps_set (i := 6) sc_at_most.nd rfl (.inl rfl) (pe_call G_value_of (hr.mono (by omega)) (by rfl) T.g_value_of T.F_value_of.kp T.b_value_of .nil pass0 (pa_cons (xv 0) (pa_cons (pe_disp (pps_cons pe_str (xv 3) (pps_cons pe_str (xv 4) pps_nil)) (by rfl) (by rfl) (fun z => by cases z) (by decide)) pa_nil))))
      (pss_one (xs_if (pt_cmp (pc_dnotin (hu_of hr) (xv 5) (xv 2)))
      (pss_one (ps_dput (hu_of hr) (xv 2) (xv 5) (xv 6) rfl))
      (pss_one (xs_if (xt_cmp (op_neK K hr.units) (pe_dget (hu_of hr) (xv 2) (xv 5) (fun _ _ => rfl)) (xv 6) (nomark _))
      (pss_one (ps_ret pe_bl))
      pss_nil)))))))))
      (pss_one (ps_ret pe_bl)))), ?_⟩
    intro F nF
    have S1 := S.new (o := .dK []) nF
    refine ⟨10, rfl, by decide, by decide, for_range (lo := 0) (n := 10) (fun i σ H' => ∃ (y3 y4 y5 y6 : Option V) (kvs : List (Key × V)), σ = [some v, some u, some (.ref F), y3, y4, y5, y6] ∧
      Sep G ((F, .dK kvs) :: M) H' ∧ DI kvs (tabTo f s' i 0)) ⟨_, _, _, _, [], rfl, S1, DI.nil⟩ (fun i σ H' hi h => ?_) (fun σ H' h => ?_)⟩
    · obtain ⟨y3, y4, y5, y6, kvs, rfl, S2, di⟩ := h
      refine ⟨5, rfl, by decide, by decide, for_range (lo := 0) (n := 5) (fun j σ H' => ∃ (y4 y5 y6 : Option V) (kvs : List (Key × V)), σ = [some v, some u, some (.ref F), some (.int (i : Nat)), y4, y5, y6] ∧
        Sep G ((F, .dK kvs) :: M) H' ∧ DI kvs (tabTo f s' i j)) ⟨_, _, _, kvs, by rw [Int.zero_add]; rfl, S2, di⟩ (fun j σ H' hj h => ?_) (fun σ H' h => ?_)⟩
      · obtain ⟨y4, y5, y6, kvs, rfl, S3, di⟩ := h
        rw [Int.zero_add]
        intro d nd
        have S4 := S3.new (o := .dK []) nd
        refine ⟨S4.hd, [(.inr "item", .int i), (.inr "at", .int j)], rfl, by simp, ?_⟩
        rw [env_merge]
        have S5 := S4.set (o' := .dK (env2 i j))
        refine ⟨G, _, u, s', d, i, j, rfl, S5, hs, oks, hds, S5.hd, ?_⟩
        have S6 := S5.drop
        intro d2 nd2
        have S7 := S6.new (o := .dK []) nd2
        refine ⟨S7.hd, [(.inr "item", .int i), (.inr "at", .int j)], rfl, by simp, ?_⟩
        rw [env_merge]
        have S8 := S7.set (o' := .dK (env2 i j))
        refine ⟨G, _, v, f, d2, i, j, rfl, S8, hf, okf, hdf, S8.hd, ?_⟩
        have S9 := S8.drop
        have hg : DGet _ F (.int (s'.val i j)) (valV kvs (.inl (s'.val i j))) := DGet.k (k := Sum.inl (s'.val i j)) S9.hd
        refine ⟨F, _, rfl, hg, _, rfl, fun e => ?_, fun e => ?_⟩
        · have e2 : valV kvs (.inl (s'.val i j)) = none := by
            cases z : valV kvs (.inl (s'.val i j)) with
            | none => rfl
            | some _ => rw [z] at e; cases e
          have dl := di.len
          rw [tabTo_len] at dl
          refine ⟨F, _, rfl, DPut.k (k := Sum.inl (s'.val i j)) S9.hd (smallL (by omega)), _, _, _, _, rfl, S9.set, ?_⟩
          rw [tab_step]
          exact di.new (p := rowT f s' i j) e2
        · cases z : valV kvs (.inl (s'.val i j)) with
          | none => rw [z] at e; cases e
          | some y =>
            rw [z] at hg
            obtain ⟨p, hp, ep⟩ := di.of _ _ z
            have ez := di.at_ p hp
            rw [ep, z] at ez
            obtain rfl : y = .int p.2 := Option.some.inj ez
            refine ⟨F, _, rfl, hg, fun e3 => ?_, fun e3 => ?_⟩
            · refine q false _ _ ⟨fun h => (nomatch h), fun h => ?_⟩ S9.frzS S9.frz
              have z2 := h p (tab_sub hi hj hp) _ (mem_tab hi hj) ep
              have z3 : (!decide (p.2 = f.val i j)) = true := e3
              rw [decide_eq_true (show p.2 = f.val i j from z2)] at z3
              cases z3
            · have z3 : (!decide (p.2 = f.val i j)) = false := e3
              have z4 : p.2 = f.val i j := by simpa using z3
              refine ⟨_, _, _, kvs, rfl, S9, ?_⟩
              rw [tab_step]
              refine di.old (p := rowT f s' i j) ?_
              rw [show (rowT f s' i j).1 = s'.val i j from rfl, z, z4]
              rfl
      · obtain ⟨y4, y5, y6, kvs, rfl, S3, di⟩ := h
        rw [tab_row] at di
        exact ⟨_, _, _, _, kvs, rfl, S3, di⟩
    · obtain ⟨y3, y4, y5, y6, kvs, rfl, S2, di⟩ := h
      exact q true _ _ ⟨fun _ => di.cons, fun _ => rfl⟩ S2.frzS S2.frz

end
end K26
set_option Elab.async false
set_option linter.all false
set_option maxRecDepth 100000
set_option maxHeartbeats 4000000
namespace K26
open PySem PySem.Spec PyProof.Rows L2 XL
section
variable {P : Program} {w : World} {K : PySem.W.Frag} {mg : Str → Option Value} {base : Heap}
/-! ### Key -/
def KeyAt (C : Addr) (G : Hp) (v : V) (f : Fm) : Prop := ∃ (x dx : Addr) (u : V), v = .ref x ∧ G x = some (.ins C dx [("form", u)]) ∧ FmAt G u f ∧ f.ok ∧ f.dep ≤ 5
theorem KeyAt.same {C : Addr} {G G' : Hp} (e : Same G G') {v : V} {f : Fm} (h : KeyAt C G v f) : KeyAt C G' v f := by
  obtain ⟨x, dx, u, h1, h2, h3, h4⟩ := h
  exact ⟨x, dx, u, h1, e _ _ h2, h3.same' e, h4⟩
def spKInit (C : Addr) : Sp := fun vs H Q _ => ∃ (G : Hp) (M : List (Addr × HO)) (x dx : Addr) (v : V) (f : Fm), vs = [.ref x, v] ∧ Sep G ((x, .ins C dx []) :: M) H ∧ FmAt G v f ∧ f.ok ∧ f.dep ≤ 5 ∧
  ∀ G' H', Same G G' → Sep G' ((x, .ins C dx [("form", v)]) :: M) H' → Q .non H'
theorem ok_Key_init (T : Top K mg w) (G_check_form : FnOk P w K mg base CX0 6 T.a_check_form T.d_check_form ["parts"] spCheck) (G_names_of : FnOk P w K mg base CX0 6 T.a_names_of T.d_names_of ["parts"] (spNames 5)) :
    FnOk P w K mg base CX0 7 T.a_Key_init T.d_Key_init ["self", "form"] (spKInit T.C_Key) := by
  refine T.F_Key_init.ok sc_Key_init (fun vs H Q E h => ?_) (fun cdv A outer s H vs Q E hr h => ?_)
  · obtain ⟨G, M, x, dx, v, f, rfl, _⟩ := h
    rfl
  · obtain ⟨G, M, x, dx, v, f, rfl, S, hf, ok, hd, q⟩ := h
    refine ⟨_, (pss_cons (ps_expr (pe_call G_check_form (hr.mono (by omega)) (by rfl) T.g_check_form T.F_check_form.kp T.b_check_form .nil pass0 (pa_cons (xv 1) pa_nil)))
      (pss_cons (ps_for PassesOwn.never rfl (pi_tupK K (pe_call G_names_of (hr.mono (by omega)) (by rfl) T.g_names_of T.F_names_of.kp T.b_names_of .nil pass0 (pa_cons (xv 1) pa_nil))) (pg_name (i := 2) sc_Key_init.nd rfl (.inl rfl))
      (pss_one (xs_if (PW.pt (xw_and (xt_cmp (op_neK K hr.units) (xv 2) pe_str (nomark _)) (pw_and1 (xt_cmp (op_neK K hr.units) (xv 2) pe_str (nomark _)))))
      (pss_one ps_never)
      pss_nil)))
      (pss_one (ps_fld (xv 0) (xv 1) rfl)))), ?_⟩
    refine ⟨G, _, v, f, rfl, S, hf, ok, hd, fun G1 H1 s1 S1 => ?_⟩
    refine ⟨G1, _, v, f, rfl, S1, hf.same' s1, ok, hd, fun r ns G2 H2 s2 S2 hr' nms nl => ?_⟩
    refine ⟨r, rfl, ⟨ns, SqT.of (S2.st hr')⟩, for_tup (xs := ns) (fun i σ H' => ∃ y2, σ = [some (.ref x), some v, y2] ∧ Sep G2 ((x, .ins T.C_Key dx []) :: M) H') ⟨_, rfl, S2⟩ (fun i σ H' _ h => ?_) (fun i y σ H' hy h => ?_) (fun σ H' h => ?_)⟩
    · obtain ⟨_, _, S3⟩ := h
      exact SqT.of (S3.st hr')
    · obtain ⟨y2, rfl, S3⟩ := h
      rcases nms y (List.mem_of_getElem? hy) with rfl | rfl
      · exact ⟨fun e => wm e, fun _ => ⟨ff, fun _ => ⟨_, rfl, S3⟩⟩⟩
      · exact ⟨fun _ => ⟨fun e => wm e, fun _ => ⟨_, rfl, S3⟩⟩, fun e => wn e⟩
    · obtain ⟨y2, rfl, S3⟩ := h
      exact ⟨x, T.C_Key, dx, [], rfl, S3.hd, T.cl_Key, T.na_Key_form, by decide, q _ _ (s1.trans s2) S3.set⟩
def spKParts (C : Addr) : Sp := fun vs H Q _ => ∃ (x dx : Addr) (v : V), vs = [.ref x] ∧ H x = some (.ins C dx [("form", v)]) ∧ Q v H
theorem ok_Key_parts (T : Top K mg w) {k : Nat} : FnOk P w K mg base CX0 (k + 1) T.a_Key_parts T.d_Key_parts ["self"] (spKParts T.C_Key) := by
  refine T.F_Key_parts.ok sc_Key_parts (fun vs H Q E h => ?_) (fun cdv A outer s H vs Q E hr h => ?_)
  · obtain ⟨x, dx, v, rfl, _⟩ := h
    rfl
  · obtain ⟨x, dx, v, rfl, hx, q⟩ := h
    refine ⟨_, (pss_one (ps_ret (pe_fldK K (xv 0)))), ?_⟩
    exact ⟨x, T.C_Key, dx, _, v, rfl, hx, T.cl_Key, T.na_Key_form, rfl, q⟩
def spKCall (C : Addr) : Sp := fun vs H Q _ => ∃ (G : Hp) (M : List (Addr × HO)) (v : V) (f : Fm) (i j : Int), vs = [v, .int i, .int j] ∧ Sep G M H ∧ KeyAt C G v f ∧ ∀ H', Sep G M H' → Q (.int (f.val i j)) H'
theorem ok_Key_call (T : Top K mg w) (G_value_of : FnOk P w K mg base CX0 6 T.a_value_of T.d_value_of ["parts", "values"] (spValue 5)) : FnOk P w K mg base CX0 7 T.a_Key_call T.d_Key_call ["self", "item", "at"] (spKCall T.C_Key) := by
  refine T.F_Key_call.ok sc_Key_call (fun vs H Q E h => ?_) (fun cdv A outer s H vs Q E hr h => ?_)
  · obtain ⟨G, M, v, f, i, j, rfl, _⟩ := h
    rfl
  · obtain ⟨G, M, _, f, i, j, rfl, S, ⟨x, dx, v, rfl, hx, hf, ok, hd⟩, q⟩ := h
    refine ⟨_, (pss_one (ps_ret (pe_call G_value_of (hr.mono (by omega)) (by rfl) T.g_value_of T.F_value_of.kp T.b_value_of .nil pass0 (pa_cons (pe_fldK K (xv 0)) (pa_cons (pe_disp (pps_cons pe_str (xv 1) (pps_cons pe_str (xv 2) pps_nil)) (by rfl) (by rfl) (fun z => by cases z) (by decide)) pa_nil))))), ?_⟩
    refine ⟨x, T.C_Key, dx, _, v, rfl, S.st hx, T.cl_Key, T.na_Key_form, rfl, fun d nd => ?_⟩
    have S4 := S.new (o := .dK []) nd
    refine ⟨S4.hd, [(.inr "item", .int i), (.inr "at", .int j)], rfl, by simp, ?_⟩
    rw [env_merge]
    have S5 := S4.set (o' := .dK (env2 i j))
    exact ⟨G, _, v, f, d, i, j, rfl, S5, hf, ok, hd, S5.hd, q _ S5.drop⟩
def spKLe (C : Addr) : Sp := fun vs H Q _ => ∃ (G : Hp) (M : List (Addr × HO)) (v u : V) (f s : Fm), vs = [v, u] ∧ Sep G M H ∧ KeyAt C G v f ∧ KeyAt C G u s ∧
  ∀ (b : Bool) (G' H' : Hp), (b = true ↔ Cons (tab f s)) → Same G G' → Sep G' M H' → Q (.bl b) H'
theorem ok_Key_le (T : Top K mg w) (G_at_most : FnOk P w K mg base CX0 7 T.a_at_most T.d_at_most ["first", "second"] (spAtMost K)) : FnOk P w K mg base CX0 8 T.a_Key_le T.d_Key_le ["self", "other"] (spKLe T.C_Key) := by
  refine T.F_Key_le.ok sc_Key_le (fun vs H Q E h => ?_) (fun cdv A outer s H vs Q E hr h => ?_)
  · obtain ⟨G, M, v, u, f, s, rfl, _⟩ := h
    rfl
  · obtain ⟨G, M, _, _, f, s', rfl, S, ⟨x, dx, v, rfl, hx, hf, ok, hd⟩, ⟨y, dy, u, rfl, hy, hs, oks, hds⟩, q⟩ := h
    refine ⟨_, (pss_cons (xs_if (pt_not (xt_truK K (pe_callB (call_isK K) (by rfl) T.m_isinstance (by decide +kernel) (pa_cons (xv 1) (pa_cons (pe_glob (v := .ref T.C_Key) (by rfl) T.g_Key rfl) pa_nil)))))
      (pss_one ps_never)
      pss_nil)
      (pss_one (ps_ret (pe_call G_at_most (hr.mono (by omega)) (by rfl) T.g_at_most T.F_at_most.kp T.b_at_most .nil pass0 (pa_cons (pe_fldK K (xv 0)) (pa_cons (pe_fldK K (xv 1)) pa_nil)))))), ?_⟩
    refine ⟨_, _, _, _, true, rfl, .own _, .base (.ins (S.st hy) T.cl_Key T.ty_Key.1 T.ty_Key.2.1 T.ty_Key.2.2.1 T.ty_Key.2.2.2.1), T.ty_Key.2.2.2.2, ff, fun _ => ?_⟩
    refine ⟨x, T.C_Key, dx, _, v, rfl, S.st hx, T.cl_Key, T.na_Key_form, rfl, y, T.C_Key, dy, _, u, rfl, S.st hy, T.cl_Key, T.na_Key_form, rfl, ?_⟩
    exact ⟨G, M, v, u, f, s', rfl, S, hf, ok, hd, hs, oks, hds, q⟩
def spKIdents (C : Addr) : Sp := fun vs H Q _ => ∃ (G : Hp) (M : List (Addr × HO)) (v : V) (f : Fm) (r : Addr) (ns : List Int), vs = [v, .ref r] ∧ Sep G M H ∧ KeyAt C G v f ∧ Tu G r (ns.map V.int) ∧ RowOk ns ∧
  ∀ (p : Addr) (ws : List V) (G' H' : Hp), Same G G' → Sep G' M H' → TupF G' p ws → Paired (Pr G') ws (ids f ns) → Q (.ref p) H'
theorem ok_Key_idents (T : Top K mg w) (G_check_row : FnOk P w K mg base CX0 7 T.a_check_row T.d_check_row ["row"] (spRow K)) (G_idents_of : FnOk P w K mg base CX0 7 T.a_idents_of T.d_idents_of ["parts", "row"] (spIdents K)) :
    FnOk P w K mg base CX0 8 T.a_Key_idents T.d_Key_idents ["self", "row"] (spKIdents T.C_Key) := by
  refine T.F_Key_idents.ok sc_Key_idents (fun vs H Q E h => ?_) (fun cdv A outer s H vs Q E hr h => ?_)
  · obtain ⟨G, M, v, f, r, ns, rfl, _⟩ := h
    rfl
  · obtain ⟨G, M, _, f, r, ns, rfl, S, ⟨x, dx, v, rfl, hx, hf, ok, hd⟩, hr', ro, q⟩ := h
    refine ⟨_, (pss_cons (ps_expr (pe_call G_check_row (hr.mono (by omega)) (by rfl) T.g_check_row T.F_check_row.kp T.b_check_row .nil pass0 (pa_cons (xv 1) pa_nil)))
      (pss_one (ps_ret (pe_call G_idents_of (hr.mono (by omega)) (by rfl) T.g_idents_of T.F_idents_of.kp T.b_idents_of .nil pass0 (pa_cons (pe_fldK K (xv 0)) (pa_cons (xv 1) pa_nil)))))), ?_⟩
    refine ⟨G, M, r, ns, rfl, S, hr', ro, fun G1 H1 s1 S1 => ?_⟩
    refine ⟨x, T.C_Key, dx, _, v, rfl, S1.st (s1 _ _ hx), T.cl_Key, T.na_Key_form, rfl, ?_⟩
    exact ⟨G1, M, v, f, r, ns, rfl, S1, hf.same' s1, ok, hd, hr'.same s1, ro.len, fun p ws G' H' s' => q p ws G' H' (s1.trans s')⟩

end
end K26
set_option Elab.async false
set_option linter.all false
set_option maxRecDepth 100000
set_option maxHeartbeats 4000000
namespace K26
open PySem PySem.Spec PyProof.Rows L2 XL
section
variable {P : Program} {w : World} {K : PySem.W.Frag} {mg : Str → Option Value} {base : Heap}
/-! ### the law's forms -/
def Nam (x : V) : Prop := ∃ z : Str, x = .str z ∧ (z = "item" ∨ z = "at")
def spForm (K : PySem.W.Frag) (d : Nat) : Sp := fun vs H Q _ => ∃ (G : Hp) (M : List (Addr × HO)) (b : Addr) (o : HO) (l : Addr) (xs : List V) (n : Int), vs = [.ref b, .ref l, .int n] ∧ Sep G ((b, o) :: M) H ∧ Bag G o ∧ SqL K G l xs ∧ 0 < xs.length ∧ xs.length < 100000 ∧ (∀ x ∈ xs, Nam x) ∧ 1 ≤ n ∧ n ≤ d ∧
  ∀ (v : V) (f : Fm) (o' : HO) (G' H' : Hp), Same G G' → FmAt G' v f → f.ok → f.dep ≤ n → Bag G' o' → Sep G' ((b, o') :: M) H' → Q v H'
theorem ok_form (T : Top K mg w) {k : Nat} (G_pick : FnOk P w K mg base CX0 k T.a_pick T.d_pick ["_law_bag_here", "_law_many"] spPick) (G_choice : FnOk P w K mg base CX0 k T.a_choice T.d_choice ["_law_bag_here", "_law_things"] (spChoice K)) :
    ∀ d : Nat, FnOk P w K mg base CX0 (k + 1 + d) T.a_form T.d_form ["_law_bag_here", "_law_readable", "_law_levels"] (spForm K d)
  | 0 => fn_false fun vs H Q E h => by
    obtain ⟨G, M, b, o, l, xs, n, _, _, _, _, _, _, _, h1, h2, _⟩ := h
    omega
  | d + 1 => by
    have G_form := ok_form T G_pick G_choice d
    refine T.F_form.ok sc_form (fun vs H Q E h => ?_) (fun cdv A outer s H vs Q E hr h => ?_)
    · obtain ⟨G, M, b, o, l, xs, n, rfl, _⟩ := h
      rfl
    · obtain ⟨G, M, b, o, l, xs, n, rfl, S, B, hl, x0, x1, nm, n1, n2, q⟩ := h
      have hr : Room (k + 1 + d) (A.deeper (envOfC (Str.ofString "_law_form") (defScope s_form) s.heap.objs.size T.a_form cdv)) := hr
      refine ⟨_, (pss_cons (ps_set (i := 3) sc_form.nd rfl (.inl rfl) (pe_call G_pick (hr.mono (by omega)) (by rfl) T.g_pick T.F_pick.kp T.b_pick .nil pass0 (pa_cons (xv 0) (pa_cons pe_int pa_nil))))
      (pss_cons (xs_if (PW.pt (xw_or (xt_cmp op_leY (xv 2) pe_int (nomark _)) (pw_or1 (xt_cmp op_ltY (xv 3) pe_int (nomark _)))))
      (pss_cons (xs_if (PW.pt (xw_or (pt_not (xt_truK K (xv 1))) (pw_or1 (PW.pt (xw_and (xt_cmp (op_eqK K hr.units) (xv 3) pe_int (nomark _)) (pw_and1 (xt_cmp (op_eqK K hr.units) (pe_call G_pick (hr.mono (by omega)) (by rfl) T.g_pick T.F_pick.kp T.b_pick .nil pass0 (pa_cons (xv 0) (pa_cons pe_int pa_nil))) pe_int (nomark _))))))))
      (pss_one (ps_ret (pe_tup (pa_cons pe_str (pa_cons (pe_call G_pick (hr.mono (by omega)) (by rfl) T.g_pick T.F_pick.kp T.b_pick .nil pass0 (pa_cons (xv 0) (pa_cons pe_int pa_nil))) pa_nil)))))
      pss_nil)
      (pss_one (ps_ret (pe_tup (pa_cons pe_str (pa_cons (pe_call G_choice (hr.mono (by omega)) (by rfl) T.g_choice T.F_choice.kp T.b_choice .nil pass0 (pa_cons (xv 0) (pa_cons (xv 1) pa_nil))) pa_nil))))))
      pss_nil)
      (pss_cons (ps_set (i := 4) sc_form.nd rfl (.inl rfl) (pe_call G_form (hr.mono (by omega)) (by rfl) T.g_form T.F_form.kp T.b_form .nil pass0 (pa_cons (xv 0) (pa_cons (xv 1) (pa_cons (pe_op op_subY (xv 2) pe_int) pa_nil)))))
      (pss_cons (ps_set (i := 5) sc_form.nd rfl (.inl rfl) (pe_call G_form (hr.mono (by omega)) (by rfl) T.g_form T.F_form.kp T.b_form .nil pass0 (pa_cons (xv 0) (pa_cons (xv 1) (pa_cons (pe_op op_subY (xv 2) pe_int) pa_nil)))))
      (pss_cons (xs_if (xt_cmp op_ltY (xv 3) pe_int (nomark _))
      (pss_one (ps_ret (pe_tup (pa_cons (pe_ix (ix_k K) (pe_lst (pa_cons pe_str (pa_cons pe_str (pa_cons pe_str pa_nil)))) (pe_op op_subY (xv 3) pe_int) (fun _ _ => rfl)) (pa_cons (xv 4) (pa_cons (xv 5) pa_nil))))))
      pss_nil)
      (pss_one (ps_ret (pe_tup (pa_cons pe_str (pa_cons (xv 4) (pa_cons (xv 5) (pa_cons (pe_call G_form (hr.mono (by omega)) (by rfl) T.g_form T.F_form.kp T.b_form .nil pass0 (pa_cons (xv 0) (pa_cons (xv 1) (pa_cons (pe_op op_subY (xv 2) pe_int) pa_nil)))) pa_nil)))))))))))), ?_⟩
      refine ⟨G, M, b, o, 8, rfl, S, B, by decide, by decide, fun w1 o1 H1 w0 w8 B1 S1 => ?_⟩
      have isQ : ∀ o2 H2, Bag G o2 → Sep G ((b, o2) :: M) H2 → ∀ r : Int, 0 ≤ r → r < 10 → ∀ t, H2 t = none → Q (.ref t) (upd H2 t (.tup [.str "is", .int r])) := fun o2 H2 B2 S2 r r0 r1 t nt =>
        q _ (.is r) o2 _ _ (S2.grow nt) (.is upd_same) ⟨r0, by omega⟩ n1 (B2.same (S2.grow nt)) (S2.newG nt)
      refine ⟨fun e1 => ⟨fun _ => ?_, tt⟩, fun e1 => ⟨fun e2 => ?_, fun e2 => ?_⟩⟩
      rotate_left 2
      · have n2' : ¬ n ≤ 1 := of_decide_eq_false e1
        have w3 : ¬ w1 < 3 := of_decide_eq_false e2
        refine ⟨G, M, b, o1, l, xs, n - 1, rfl, S1, B1, hl, x0, x1, nm, by omega, by omega, fun v1 f1 o2 G2 H2 s2 hf1 ok1 d1 B2 S2 => ?_⟩
        refine ⟨G2, M, b, o2, l, xs, n - 1, rfl, S2, B2, same_l s2 hl, x0, x1, nm, by omega, by omega, fun v2 f2 o3 G3 H3 s3 hf2 ok2 d2 B3 S3 => ⟨fun e3 => ?_, fun e3 => ?_⟩⟩
        · have w6 : w1 < 6 := of_decide_eq_true e3
          refine ⟨sz, fun t0 nt0 => ?_⟩
          have S4 := S3.newG (o := .lst [.str "sum", .str "sum", .str "same"]) nt0
          have s4 := S3.grow (o := .lst [.str "sum", .str "sum", .str "same"]) nt0
          obtain rfl | rfl | rfl : w1 = 3 ∨ w1 = 4 ∨ w1 = 5 := by omega
          · refine ⟨_, _, .inl (SqL.of upd_same), rfl, sz, fun t nt => ?_⟩
            have s5 := s4.trans (S4.grow (o := .tup [.str "sum", v1, v2]) nt)
            exact q _ (.sum f1 f2) o3 _ _ (s2.trans (s3.trans s5)) (.sum upd_same (hf1.same' (s3.trans s5)) (hf2.same' s5)) ⟨ok1, ok2⟩ (by simp only [Fm.dep]; omega) (B3.same s5) (S4.newG nt)
          · refine ⟨_, _, .inl (SqL.of upd_same), rfl, sz, fun t nt => ?_⟩
            have s5 := s4.trans (S4.grow (o := .tup [.str "sum", v1, v2]) nt)
            exact q _ (.sum f1 f2) o3 _ _ (s2.trans (s3.trans s5)) (.sum upd_same (hf1.same' (s3.trans s5)) (hf2.same' s5)) ⟨ok1, ok2⟩ (by simp only [Fm.dep]; omega) (B3.same s5) (S4.newG nt)
          · refine ⟨_, _, .inl (SqL.of upd_same), rfl, sz, fun t nt => ?_⟩
            have s5 := s4.trans (S4.grow (o := .tup [.str "same", v1, v2]) nt)
            exact q _ (.same f1 f2) o3 _ _ (s2.trans (s3.trans s5)) (.same upd_same (hf1.same' (s3.trans s5)) (hf2.same' s5)) ⟨ok1, ok2⟩ (by simp only [Fm.dep]; omega) (B3.same s5) (S4.newG nt)
        · refine ⟨G3, M, b, o3, l, xs, n - 1, rfl, S3, B3, same_l (s2.trans s3) hl, x0, x1, nm, by omega, by omega, fun v3 f3 o4 G4 H4 s4 hf3 ok3 d3 B4 S4 => ⟨sz, fun t nt => ?_⟩⟩
          have s5 := S4.grow (o := .tup [.str "pick", v1, v2, v3]) nt
          exact q _ (.pick f1 f2 f3) o4 _ _ (s2.trans (s3.trans (s4.trans s5))) (.pick upd_same (hf1.same' (s3.trans (s4.trans s5))) (hf2.same' (s4.trans s5)) (hf3.same' s5)) ⟨ok1, ok2, ok3⟩ (by simp only [Fm.dep]; omega) (B4.same s5) (S4.newG nt)
      all_goals
        have getQ : ∀ o2 H2, Bag G o2 → Sep G ((b, o2) :: M) H2 → ∀ v, v ∈ xs → ∀ t, H2 t = none → Q (.ref t) (upd H2 t (.tup [.str "get", v])) := fun o2 H2 B2 S2 v hv t nt => by
          obtain ⟨z, rfl, hz⟩ := nm v hv
          exact q _ (.get z) o2 _ _ (S2.grow nt) (.get upd_same) hz n1 (B2.same (S2.grow nt)) (S2.newG nt)
        have ne : (!!xs.isEmpty) = false := by
          cases xs with
          | nil => simp at x0
          | cons _ _ => rfl
        refine ⟨!xs.isEmpty, .inl ⟨xs, S1.l hl, rfl⟩, fun e => absurd e (by rw [ne]; decide), fun _ => ⟨fun _ => ?_, fun _ => ⟨ff, fun _ => ?_⟩⟩⟩
        · refine ⟨G, M, b, o1, 2, rfl, S1, B1, by decide, by decide, fun r2 o2 H2 _ _ B2 S2 => ⟨fun _ => ?_, fun _ => ?_⟩⟩
          · exact ⟨G, M, b, o2, 10, rfl, S2, B2, by decide, by decide, fun r3 o3 H3 r30 r31 B3 S3 => ⟨sz, fun t nt => isQ o3 H3 B3 S3 r3 r30 r31 t nt⟩⟩
          · exact ⟨G, M, b, o2, l, xs, rfl, S2, B2, hl, x0, x1, fun v o3 H3 hv B3 S3 => ⟨sz, fun t nt => getQ o3 H3 B3 S3 v hv t nt⟩⟩
        · exact ⟨G, M, b, o1, l, xs, rfl, S1, B1, hl, x0, x1, fun v o3 H3 hv B3 S3 => ⟨sz, fun t nt => getQ o3 H3 B3 S3 v hv t nt⟩⟩
theorem ok_value (T : Top K mg w) : ∀ d : Nat, FnOk P w K mg base CX0 (d + 1) T.a_value T.d_value ["_law_form_here", "_law_worths"] (spValue d)
  | 0 => fn_false fun vs H Q E h => by
    obtain ⟨G, M, v, f, e, i, j, _, _, _, _, hd, _⟩ := h
    have := f.dep_pos
    omega
  | d + 1 => by
    have G_value := ok_value T d
    refine T.F_value.ok sc_value (fun vs H Q E h => ?_) (fun cdv A outer s H vs Q E hr h => ?_)
    · obtain ⟨G, M, v, f, e, i, j, rfl, _⟩ := h
      rfl
    · obtain ⟨G, M, v, f, e, i, j, rfl, S, hf, ok, hd, he, q⟩ := h
      refine ⟨_, (pss_cons (ps_set (i := 2) sc_value.nd rfl (.inl rfl) (pe_ix (ix_k K) (xv 0) pe_int (fun _ _ => rfl)))
      (pss_cons (xs_if (PW.pt (xw_or (xt_cmp (op_eqK K hr.units) (xv 2) pe_str (nomark _)) (pw_or1 (xt_cmp (op_eqK K hr.units) (xv 2) pe_str (nomark _)))))
      (pss_one (ps_ret (xe_if (xt_cmp (op_eqK K hr.units) (xv 2) pe_str (nomark _)) (pe_ix (ix_k K) (xv 0) pe_int (fun _ _ => rfl)) (pe_dget (hu_of hr) (xv 1) (pe_ix (ix_k K) (xv 0) pe_int (fun _ _ => rfl)) (fun _ _ => rfl)))))
      pss_nil)
      (pss_cons (ps_set (i := 3) sc_value.nd rfl (.inl rfl) (pe_call G_value (hr.mono (by omega)) (by rfl) T.g_value T.F_value.kp T.b_value .nil pass0 (pa_cons (pe_ix (ix_k K) (xv 0) pe_int (fun _ _ => rfl)) (pa_cons (xv 1) pa_nil))))
      (pss_cons (xs_if (xt_cmp (op_eqK K hr.units) (xv 2) pe_str (nomark _))
      (pss_one (ps_ret (pe_call G_value (hr.mono (by omega)) (by rfl) T.g_value T.F_value.kp T.b_value .nil pass0 (pa_cons (xe_if (xt_cmp (op_neK K hr.units) (xv 3) pe_int (nomark _)) (pe_ix (ix_k K) (xv 0) pe_int (fun _ _ => rfl)) (pe_ix (ix_k K) (xv 0) pe_int (fun _ _ => rfl))) (pa_cons (xv 1) pa_nil)))))
      pss_nil)
      (pss_cons (ps_set (i := 4) sc_value.nd rfl (.inl rfl) (pe_call G_value (hr.mono (by omega)) (by rfl) T.g_value T.F_value.kp T.b_value .nil pass0 (pa_cons (pe_ix (ix_k K) (xv 0) pe_int (fun _ _ => rfl)) (pa_cons (xv 1) pa_nil))))
      (pss_one (ps_ret (xe_if (xt_cmp (op_eqK K hr.units) (xv 2) pe_str (nomark _)) (pe_op op_modY (pe_callTy cr_int (by rfl) T.m_int (by decide +kernel) (pa_cons (pe_op op_addY (xv 3) (xv 4)) pa_nil)) pe_int) (pe_callTy cr_int (by rfl) T.m_int (by decide +kernel) (pa_cons (pe_cmpR (op_eqK K hr.units) (xv 3) (xv 4) (nomark _)) pa_nil)))))))))), ?_⟩
      cases hf with
      | is hp =>
        have h1 := SqT.of (K := K) (S.st hp)
        exact ⟨_, _, .inr h1, rfl, fun _ => ⟨fun _ => ⟨fun _ => ⟨_, _, .inr h1, rfl, q⟩, we⟩, tt⟩, we⟩
      | @get p x hp =>
        have h1 := SqT.of (K := K) (S.st hp)
        have hg : DGet H e (.str x) (some (.int (if x = "item" then i else j))) := by
          rw [← env_get i j ok]
          exact DGet.k (k := Sum.inr x) he
        exact ⟨_, _, .inr h1, rfl, fun e => wd e, fun _ => ⟨fun _ => ⟨fun e => wd e, fun _ => ⟨_, _, .inr h1, rfl, e, _, rfl, hg, q⟩⟩, we⟩⟩
      | sum hp h2 h3 =>
        have h1 := SqT.of (K := K) (S.st hp)
        have e1 : (Fm.sum _ _).dep ≤ d + 1 := hd
        simp only [Fm.dep] at e1
        refine ⟨_, _, .inr h1, rfl, fun e => wd e, fun _ => ⟨fun e => wd e, fun _ => ?_⟩⟩
        refine ⟨_, _, .inr h1, rfl, G, M, _, _, e, i, j, rfl, S, h2, ok.1, by omega, he, fun e => wd e, fun _ => ?_⟩
        refine ⟨_, _, .inr h1, rfl, G, M, _, _, e, i, j, rfl, S, h3, ok.2, by omega, he, ?_⟩
        exact ⟨fun _ => ⟨by decide, fun r hr _ _ => hr ▸ q⟩, we⟩
      | same hp h2 h3 =>
        have h1 := SqT.of (K := K) (S.st hp)
        have e1 : (Fm.same _ _).dep ≤ d + 1 := hd
        simp only [Fm.dep] at e1
        refine ⟨_, _, .inr h1, rfl, fun e => wd e, fun _ => ⟨fun e => wd e, fun _ => ?_⟩⟩
        refine ⟨_, _, .inr h1, rfl, G, M, _, _, e, i, j, rfl, S, h2, ok.1, by omega, he, fun e => wd e, fun _ => ?_⟩
        refine ⟨_, _, .inr h1, rfl, G, M, _, _, e, i, j, rfl, S, h3, ok.2, by omega, he, ?_⟩
        refine ⟨fun e => wd e, fun _ => ?_⟩
        simp only [Fm.val] at q
        have e2 : ∀ x y : Int, (if decide (x = y) = true then (1 : Int) else 0) = if x = y then 1 else 0 := fun x y => by by_cases h : x = y <;> simp [h]
        rw [← e2] at q
        exact q
      | pick hp h2 h3 h4 =>
        have h1 := SqT.of (K := K) (S.st hp)
        have e1 : (Fm.pick _ _ _).dep ≤ d + 1 := hd
        simp only [Fm.dep] at e1
        refine ⟨_, _, .inr h1, rfl, fun e => wd e, fun _ => ⟨fun e => wd e, fun _ => ?_⟩⟩
        refine ⟨_, _, .inr h1, rfl, G, M, _, _, e, i, j, rfl, S, h2, ok.1, by omega, he, fun _ => ?_, we⟩
        refine ⟨fun e2 => ?_, fun e2 => ?_⟩
        · refine ⟨_, _, .inr h1, rfl, G, M, _, _, e, i, j, rfl, S, h3, ok.2.1, by omega, he, ?_⟩
          simp only [Fm.val] at q
          rw [if_neg (by simpa using e2)] at q
          exact q
        · refine ⟨_, _, .inr h1, rfl, G, M, _, _, e, i, j, rfl, S, h4, ok.2.2, by omega, he, ?_⟩
          simp only [Fm.val] at q
          rw [if_pos (by simpa using e2)] at q
          exact q
def spLIdents (K : PySem.W.Frag) : Sp := fun vs H Q _ => ∃ (G : Hp) (M : List (Addr × HO)) (v : V) (f : Fm) (r : Addr) (ns : List Int), vs = [v, .ref r] ∧ Sep G M H ∧ FmAt G v f ∧ f.ok ∧ f.dep ≤ 5 ∧ Tu G r (ns.map V.int) ∧ ns.length ≤ 5 ∧
  ∀ (p : Addr) (ws : List V) (G' H' : Hp), Same G G' → Sep G' M H' → G' p = some (.lst ws) → Paired (Pr G') ws (ids f ns) → Q (.ref p) H'
theorem ok_idents (T : Top K mg w) (G_value : FnOk P w K mg base CX0 6 T.a_value T.d_value ["_law_form_here", "_law_worths"] (spValue 5)) : FnOk P w K mg base CX0 7 T.a_idents T.d_idents ["_law_key", "_law_row_here"] (spLIdents K) := by
  refine T.F_idents.ok sc_idents (fun vs H Q E h => ?_) (fun cdv A outer s H vs Q E hr h => ?_)
  · obtain ⟨G, M, v, f, r, ns, rfl, _⟩ := h
    rfl
  · obtain ⟨G, M, v, f, r, ns, rfl, S, hf, ok, hd, hr', hl, q⟩ := h
    refine ⟨_, (pss_cons (ps_set (i := 2) sc_idents.nd rfl (.inl rfl) (pe_lst pa_nil))
      (pss_cons (ps_for PassesOwn.never rfl (pi_enumT (by rfl) T.m_enumerate (pa_cons (xv 1) pa_nil)) (pg_tupK K 2 (pgs_cons (pg_name (i := 3) sc_idents.nd rfl (.inl rfl)) (pgs_cons (pg_name (i := 4) sc_idents.nd rfl (.inl rfl)) pgs_nil)))
      (pss_cons (ps_set (i := 5) sc_idents.nd rfl (.inr rfl) (pe_call G_value (hr.mono (by omega)) (by rfl) T.g_value T.F_value.kp T.b_value .nil pass0 (pa_cons (xv 0) (pa_cons (pe_disp (pps_cons pe_str (xv 4) (pps_cons pe_str (xv 3) pps_nil)) (by rfl) (by rfl) (fun z => by cases z) (by decide)) pa_nil))))
      (pss_one (ps_expr (pe_bmK K PySem.F.plainAttrs_list PySem.F.slot_list_append PySem.F.type_list_append mt_append (xv 2) (pa_cons (pe_tup (pa_cons (xv 5) (pa_cons (pe_callB (cr_lenK K) (by rfl) T.m_len (by decide +kernel) (pa_cons (pe_lc (own := [("_law_told", 6)]) (by rfl) sc_idents.nd (pi_listK K (xv 2)) (blkOk_by (N := ["_law_key", "_law_row_here", "_law_out", "_law_at", "_law_item", "_law_worth", "_law_told"]) (sc := defScope s_idents) (by decide +kernel)) (fun _ _ _ _ _ => (pg_name (i := 6) sc_idents.nd rfl (.inl rfl))) (fun _ _ _ _ _ => (pts_one (xt_cmp (op_eqK K hr.units) (pe_ix (ix_k K) (xv 6) pe_int (fun _ _ => rfl)) (xv 5) (nomark _)))) (fun _ _ _ _ _ => (xv 6))) pa_nil)) pa_nil))) pa_nil))))))
      (pss_one (ps_ret (xv 2))))), ?_⟩
    refine ⟨sz, fun L nL => ?_⟩
    have S1 := S.new (o := .lst []) nL
    refine ⟨r, _, rfl, (hr'.same S1.1).sq, for_enumT (xs := ns.map V.int) (fun k σ H' => ∃ (y3 y4 y5 y6 : Option V) (G' : Hp) (ws : List V), σ = [some v, some (.ref r), some (.ref L), y3, y4, y5, y6] ∧ Same G G' ∧
      Sep G' ((L, .lst ws) :: M) H' ∧ Paired (Pr G') ws ((List.range k).map (idt f ns))) ⟨_, _, _, _, G, [], rfl, Same.refl _, S1, .nil⟩ (fun k σ H' h => ?_) (fun k x σ H' t0 hx h nt0 => ?_) (fun σ H' h => ?_)⟩
    · obtain ⟨_, _, _, _, G', _, _, s2, S2, _⟩ := h
      exact ((hr'.same s2).same S2.1).sq
    · obtain ⟨y3, y4, y5, y6, G', ws, rfl, s2, S2, hw⟩ := h
      have hk : k < ns.length := by
        have z := (List.getElem?_eq_some_iff.mp hx).1
        rwa [List.length_map] at z
      obtain rfl : x = .int (ns.getD k 0) := by
        rw [List.getElem?_map, List.getElem?_eq_getElem hk] at hx
        rw [List.getD_eq_getElem?_getD, List.getElem?_eq_getElem hk]
        exact (Option.some.inj hx).symm
      have S3 := S2.newG (o := .tup [.int (k : Nat), .int (ns.getD k 0)]) nt0
      have s3 := S2.grow (o := .tup [.int (k : Nat), .int (ns.getD k 0)]) nt0
      intro d nd
      have S4 := S3.new (o := .dK []) nd
      refine ⟨S4.hd, [(.inr "item", .int (ns.getD k 0)), (.inr "at", .int k)], rfl, by simp, ?_⟩
      rw [env_merge]
      have S5 := S4.set (o' := .dK (env2 (ns.getD k 0) k))
      refine ⟨_, _, v, f, d, ns.getD k 0, k, rfl, S5, hf.same' (s2.trans s3), ok, hd, S5.hd, ?_⟩
      have S6 := S5.drop
      have hw6 := prd_imp (fun _ _ => Pr.same s3) hw
      have hwl := prd_len hw
      rw [List.length_map, List.length_range] at hwl
      refine ⟨.inl ⟨rfl, _, SqL.of S6.hd⟩, L, rfl, ⟨ws, SqL.of S6.hd⟩, fun D nD => lc_list (xs := ws) (fun i H' => ∃ acc : List V, Sep (upd G' t0 (.tup [.int (k : Nat), .int (ns.getD k 0)])) ((D, .lst acc) :: (L, .lst ws) :: M) H' ∧ acc.length = (((List.range k).map (gv f ns)).take i).count (gv f ns k))
        ⟨[], S6.new nD, rfl⟩ (fun i H' _ p => ?_) (fun i x H' hx p => ?_) (fun H' p => ?_)⟩
      · obtain ⟨acc, S7, _⟩ := p
        exact SqL.of S7.sw.hd
      · obtain ⟨acc, S7, hc⟩ := p
        obtain ⟨c, hcx, a, rfl, ha⟩ := prd_get hw6 hx
        have hi : i < k := by
          have z := (List.getElem?_eq_some_iff.mp hx).1
          omega
        have hcx2 : c = idt f ns i := by
          rw [List.getElem?_map, List.getElem?_range hi] at hcx
          exact (Option.some.inj hcx).symm
        have hg : ((List.range k).map (gv f ns))[i]? = some (gv f ns i) := by
          rw [List.getElem?_map, List.getElem?_range hi]
          rfl
        have hcl : acc.length ≤ i := by
          rw [hc]
          refine Nat.le_trans List.count_le_length ?_
          rw [List.length_take]
          omega
        refine ⟨rfl, _, _, .inr (SqT.of (S7.st ha)), rfl, ?_⟩
        have e1 : c.1 = gv f ns i := by rw [hcx2]; rfl
        rw [XL.take_snoc hg, List.count_append]
        by_cases hq : gv f ns i = gv f ns k
        · have e2 : decide (c.1 = gv f ns k) = true := decide_eq_true (e1.trans hq)
          show if decide (c.1 = gv f ns k) = true then _ else _
          rw [if_pos e2]
          refine ⟨acc, S7.hd, smallL (by omega), _, S7.set, ?_⟩
          rw [hq, List.length_append, hc]
          simp
        · have e2 : ¬ decide (c.1 = gv f ns k) = true := fun z => hq (e1.symm.trans (of_decide_eq_true z))
          show if decide (c.1 = gv f ns k) = true then _ else _
          rw [if_neg e2]
          refine ⟨acc, S7, ?_⟩
          rw [hc, List.count_singleton]
          simp [hq]
      · obtain ⟨acc, S7, hc⟩ := p
        rw [hwl, List.take_of_length_le (by simp)] at hc
        refine ⟨acc, .inl (SqL.of S7.hd), sz, fun t nt => ?_⟩
        rw [hc]
        have S8 := S7.drop
        have S9 := S8.newG (o := .tup [.int (gv f ns k), .int ((((List.range k).map (gv f ns)).count (gv f ns k) : Nat) : Int)]) nt
        have s9 := S8.grow (o := .tup [.int (gv f ns k), .int ((((List.range k).map (gv f ns)).count (gv f ns k) : Nat) : Int)]) nt
        refine ⟨L, ws, _, rfl, rfl, S9.hd, smallL (by omega), ?_⟩
        refine ⟨_, _, _, _, _, ws ++ [.ref t], rfl, s2.trans (s3.trans s9), S9.set, ?_⟩
        rw [List.range_succ, List.map_append]
        exact (prd_imp (fun _ _ => Pr.same s9) hw6).snoc ⟨t, rfl, upd_same⟩
    · obtain ⟨y3, y4, y5, y6, G', ws, rfl, s2, S2, hw⟩ := h
      rw [List.length_map] at hw
      exact q L ws _ _ (s2.trans S2.frzS) S2.frz upd_same (prd_imp (fun _ _ => Pr.same S2.frzS) hw)

end
end K26
set_option Elab.async false
set_option linter.all false
set_option maxRecDepth 100000
set_option maxHeartbeats 4000000
namespace K26
open PySem PySem.Spec PyProof.Rows L2 XL
section
variable {P : Program} {w : World} {K : PySem.W.Frag} {mg : Str → Option Value} {base : Heap}
/-! ### makers -/
theorem Sep.mk {G H : Hp} {M : List (Addr × HO)} {p : Addr} {o : HO} (S : Sep G M H) (h : H p = none) : ∃ G', Same G G' ∧ Sep G' M (upd H p o) ∧ G' p = some o := ⟨_, S.grow h, S.newG h, upd_same⟩
theorem fIs {G H : Hp} {M : List (Addr × HO)} {t : Addr} {n : Int} (S : Sep G M H) (nt : H t = none) : ∃ G', Same G G' ∧ Sep G' M (upd H t (.tup [.str "is", .int n])) ∧ FmAt G' (.ref t) (.is n) := ⟨_, S.grow nt, S.newG nt, .is upd_same⟩
theorem fGet {G H : Hp} {M : List (Addr × HO)} {t : Addr} {x : Str} (S : Sep G M H) (nt : H t = none) : ∃ G', Same G G' ∧ Sep G' M (upd H t (.tup [.str "get", .str x])) ∧ FmAt G' (.ref t) (.get x) := ⟨_, S.grow nt, S.newG nt, .get upd_same⟩
theorem fSum {G H : Hp} {M : List (Addr × HO)} {t : Addr} {v1 v2 : V} {a b : Fm} (S : Sep G M H) (nt : H t = none) (h1 : FmAt G v1 a) (h2 : FmAt G v2 b) : ∃ G', Same G G' ∧ Sep G' M (upd H t (.tup [.str "sum", v1, v2])) ∧ FmAt G' (.ref t) (.sum a b) :=
  ⟨_, S.grow nt, S.newG nt, .sum upd_same (h1.same' (S.grow nt)) (h2.same' (S.grow nt))⟩
theorem fSame {G H : Hp} {M : List (Addr × HO)} {t : Addr} {v1 v2 : V} {a b : Fm} (S : Sep G M H) (nt : H t = none) (h1 : FmAt G v1 a) (h2 : FmAt G v2 b) : ∃ G', Same G G' ∧ Sep G' M (upd H t (.tup [.str "same", v1, v2])) ∧ FmAt G' (.ref t) (.same a b) :=
  ⟨_, S.grow nt, S.newG nt, .same upd_same (h1.same' (S.grow nt)) (h2.same' (S.grow nt))⟩
theorem fPick {G H : Hp} {M : List (Addr × HO)} {t : Addr} {v1 v2 v3 : V} {a b c : Fm} (S : Sep G M H) (nt : H t = none) (h1 : FmAt G v1 a) (h2 : FmAt G v2 b) (h3 : FmAt G v3 c) : ∃ G', Same G G' ∧ Sep G' M (upd H t (.tup [.str "pick", v1, v2, v3])) ∧ FmAt G' (.ref t) (.pick a b c) :=
  ⟨_, S.grow nt, S.newG nt, .pick upd_same (h1.same' (S.grow nt)) (h2.same' (S.grow nt)) (h3.same' (S.grow nt))⟩
theorem in_ints {v : V} (xs : List Int) (hx : (xs.all fun n => decide (0 ≤ n) && decide (n ≤ 9)) = true) (hv : v ∈ xs.map V.int) : ∃ n, v = .int n ∧ 0 ≤ n ∧ n ≤ 9 := by
  obtain ⟨n, hn, rfl⟩ := List.mem_map.mp hv
  have z := List.all_eq_true.mp hx n hn
  rw [Bool.and_eq_true] at z
  exact ⟨n, rfl, of_decide_eq_true z.1, of_decide_eq_true z.2⟩
theorem cut_to (xs : List V) {r : Int} (h : 0 ≤ r) : cutV xs none (some r) = xs.take r.toNat := by
  obtain ⟨j, rfl⟩ : ∃ j : Nat, r = (j : Int) := ⟨r.toNat, by omega⟩
  unfold cutV
  rw [HT.sIx_nat, HT.sIx_none]
  show List.take (min j xs.length - 0) (List.drop 0 xs) = _
  rw [Nat.sub_zero, List.drop_zero, Int.toNat_natCast]
  by_cases hj : j ≤ xs.length
  · rw [Nat.min_eq_left hj]
  · rw [Nat.min_eq_right (by omega), List.take_length, List.take_of_length_le (by omega)]
def vInt : V → Int
  | .int i => i
  | _ => 0
theorem perm_ints {ys : List V} {xs : List Int} (h : ys.Perm (xs.map V.int)) : ∃ ms : List Int, ys = ms.map V.int ∧ ms.Perm xs := by
  refine ⟨ys.map vInt, ?_, ?_⟩
  · rw [List.map_map]
    have e : ∀ y ∈ ys, (V.int ∘ vInt) y = y := fun y hy => by
      obtain ⟨n, _, rfl⟩ := List.mem_map.mp (h.mem_iff.mp hy)
      rfl
    exact ((List.map_congr_left e).trans (List.map_id _)).symm
  · have z := h.map vInt
    rw [List.map_map] at z
    have e : xs.map (vInt ∘ V.int) = xs := List.map_id _
    rw [e] at z
    exact z
def dig : List Int := [0, 1, 2, 3, 4, 5, 6, 7, 8, 9]
theorem row_of {ms : List Int} {k j : Nat} (h : ms.Perm (dig.take k)) (hj : j ≤ 5) : RowOk (ms.take j) := by
  refine ⟨by rw [List.length_take]; omega, ?_, fun n hn => ?_⟩
  · have z : (dig.take k).Nodup := List.Nodup.sublist (List.take_sublist _ _) (by decide)
    exact List.Nodup.sublist (List.take_sublist _ _) (h.nodup_iff.mpr z)
  · have z : n ∈ dig := List.mem_of_mem_take (h.mem_iff.mp (List.mem_of_mem_take hn))
    have e : ∀ n ∈ dig, 0 ≤ n ∧ n ≤ 9 := by decide
    exact e n z

def spLRow (K : PySem.W.Frag) : Sp := fun vs H Q _ => ∃ (G : Hp) (M : List (Addr × HO)) (b : Addr) (o : HO) (n : Int), vs = [.ref b, .int n] ∧ Sep G ((b, o) :: M) H ∧ Bag G o ∧ 0 ≤ n ∧ n ≤ 5 ∧
  ∀ (r : Addr) (ns : List Int) (o' : HO) (G' H' : Hp), Same G G' → TupF G' r (ns.map V.int) → RowOk ns → Bag G' o' → Sep G' ((b, o') :: M) H' → Q (.ref r) H'
theorem ok_row (T : Top K mg w) {k : Nat} (G_pick : FnOk P w K mg base CX0 k T.a_pick T.d_pick ["_law_bag_here", "_law_many"] spPick) (G_mingled : FnOk P w K mg base CX0 k T.a_mingled T.d_mingled ["_law_bag_here", "_law_things"] (spMingled K)) :
    FnOk P w K mg base CX0 (k + 1) T.a_row T.d_row ["_law_bag_here", "_law_most"] (spLRow K) := by
  refine T.F_row.ok sc_row (fun vs H Q E h => ?_) (fun cdv A outer s H vs Q E hr h => ?_)
  · obtain ⟨G, M, b, o, n, rfl, _⟩ := h
    rfl
  · obtain ⟨G, M, b, o, n, rfl, S, B, n0, n5, q⟩ := h
    refine ⟨_, (pss_cons (ps_set (i := 2) sc_row.nd rfl (.inl rfl) (pe_call G_mingled (hr.mono (by omega)) (by rfl) T.g_mingled T.F_mingled.kp T.b_mingled .nil pass0 (pa_cons (xv 0) (pa_cons (pe_slice (sl_listK K) (pe_lst (pa_cons pe_int (pa_cons pe_int (pa_cons pe_int (pa_cons pe_int (pa_cons pe_int (pa_cons pe_int (pa_cons pe_int (pa_cons pe_int (pa_cons pe_int (pa_cons pe_int pa_nil))))))))))) po_none (po_some (pe_op op_addY pe_int (pe_call G_pick (hr.mono (by omega)) (by rfl) T.g_pick T.F_pick.kp T.b_pick .nil pass0 (pa_cons (xv 0) (pa_cons pe_int pa_nil)))))) pa_nil))))
      (pss_one (ps_ret (pe_callTy (call_tupleFK K) (by rfl) T.m_tuple (by decide +kernel) (pa_cons (pe_slice (sl_listK K) (xv 2) po_none (po_some (pe_call G_pick (hr.mono (by omega)) (by rfl) T.g_pick T.F_pick.kp T.b_pick .nil pass0 (pa_cons (xv 0) (pa_cons (pe_op op_addY (xv 1) pe_int) pa_nil))))) pa_nil))))), ?_⟩
    refine ⟨sz, fun l0 nl0 => ?_⟩
    obtain ⟨G1, s1, S1, h1⟩ := Sep.mk (o := .lst (dig.map V.int)) S nl0
    refine ⟨G1, M, b, o, 9, rfl, S1, B.same s1, by decide, by decide, fun r o2 H2 r0 r1 B2 S2 => ?_⟩
    refine ⟨_, rfl, l0, _, rfl, SqL.of (S2.st h1), fun p np => ?_⟩
    rw [cut_to _ (by omega), ← List.map_take]
    obtain ⟨G3, s3, S3, h3⟩ := Sep.mk (o := .lst ((dig.take (2 + r).toNat).map V.int)) S2 np
    refine ⟨G3, M, b, o2, p, _, rfl, S3, B2.same s3, SqL.of h3, ?_, fun a ys o4 G4 H4 s4 h4 pm B4 S4 => ?_⟩
    · rw [List.length_map, List.length_take]
      exact Nat.lt_of_le_of_lt (Nat.min_le_right _ _) (by decide)
    · obtain ⟨ms, rfl, pm'⟩ := perm_ints pm
      refine ⟨G4, M, b, o4, n + 1, rfl, S4, B4, by omega, by omega, fun r5 o5 H5 r50 r51 B5 S5 => ?_⟩
      refine ⟨_, rfl, a, _, rfl, SqL.of (S5.st h4), fun p2 np2 => ?_⟩
      rw [cut_to _ r50, ← List.map_take]
      obtain ⟨G6, s6, S6, h6⟩ := Sep.mk (o := .lst ((ms.take r5.toNat).map V.int)) S5 np2
      refine ⟨p2, _, rfl, .inl ⟨SqL.of (S6.st h6), fun t ob nt hob => ?_⟩⟩
      obtain ⟨G7, s7, S7, h7⟩ := Sep.mk (o := .frz ob (.tup ((ms.take r5.toNat).map V.int))) S6 nt
      exact q t _ o5 G7 _ (s1.trans (s3.trans (s4.trans (s6.trans s7)))) ⟨ob, hob, h7⟩ (row_of pm' (by omega)) (B5.same (s6.trans s7)) S7

def spAnyKey : Sp := fun vs H Q _ => ∃ (G : Hp) (M : List (Addr × HO)) (b : Addr) (o : HO), vs = [.ref b] ∧ Sep G ((b, o) :: M) H ∧ Bag G o ∧
  ∀ (v : V) (f : Fm) (o' : HO) (G' H' : Hp), Same G G' → FmAt G' v f → f.ok → f.dep ≤ 5 → Bag G' o' → Sep G' ((b, o') :: M) H' → Q v H'
theorem ok_any_key (T : Top K mg w) {k : Nat} (G_pick : FnOk P w K mg base CX0 k T.a_pick T.d_pick ["_law_bag_here", "_law_many"] spPick) (G_choice : FnOk P w K mg base CX0 k T.a_choice T.d_choice ["_law_bag_here", "_law_things"] (spChoice K))
    (G_form : FnOk P w K mg base CX0 (k + 1 + 5) T.a_form T.d_form ["_law_bag_here", "_law_readable", "_law_levels"] (spForm K 5)) :
    FnOk P w K mg base CX0 (k + 7) T.a_any_key T.d_any_key ["_law_bag_here"] spAnyKey := by
  refine T.F_any_key.ok sc_any_key (fun vs H Q E h => ?_) (fun cdv A outer s H vs Q E hr h => ?_)
  · obtain ⟨G, M, b, o, rfl, _⟩ := h
    rfl
  · obtain ⟨G, M, b, o, rfl, S, B, q⟩ := h
    refine ⟨_, (pss_cons (ps_set (i := 1) sc_any_key.nd rfl (.inl rfl) (pe_call G_pick (hr.mono (by omega)) (by rfl) T.g_pick T.F_pick.kp T.b_pick .nil pass0 (pa_cons (xv 0) (pa_cons pe_int pa_nil))))
      (pss_cons (ps_set (i := 2) sc_any_key.nd rfl (.inl rfl) (pe_call G_choice (hr.mono (by omega)) (by rfl) T.g_choice T.F_choice.kp T.b_choice .nil pass0 (pa_cons (xv 0) (pa_cons (pe_lst (pa_cons pe_int (pa_cons pe_int (pa_cons pe_int (pa_cons pe_int (pa_cons pe_int (pa_cons pe_int (pa_cons pe_int (pa_cons pe_int (pa_cons pe_int (pa_cons pe_int (pa_cons pe_int pa_nil)))))))))))) pa_nil))))
      (pss_cons (ps_set (i := 3) sc_any_key.nd rfl (.inl rfl) (pe_call G_choice (hr.mono (by omega)) (by rfl) T.g_choice T.F_choice.kp T.b_choice .nil pass0 (pa_cons (xv 0) (pa_cons (pe_lst (pa_cons pe_int (pa_cons pe_int (pa_cons pe_int (pa_cons pe_int (pa_cons pe_int (pa_cons pe_int pa_nil))))))) pa_nil))))
      (pss_cons (ps_set (i := 4) sc_any_key.nd rfl (.inl rfl) (pe_tup (pa_cons pe_str (pa_cons pe_str pa_nil))))
      (pss_cons (xs_if (xt_cmp (op_eqK K hr.units) (xv 1) pe_int (nomark _))
      (pss_one (ps_ret (xv 4)))
      pss_nil)
      (pss_cons (xs_if (xt_cmp (op_eqK K hr.units) (xv 1) pe_int (nomark _))
      (pss_one (ps_ret (pe_tup (pa_cons pe_str (pa_cons pe_str pa_nil)))))
      pss_nil)
      (pss_cons (xs_if (xt_cmp (op_eqK K hr.units) (xv 1) pe_int (nomark _))
      (pss_one (ps_ret (pe_tup (pa_cons pe_str (pa_cons (xv 2) pa_nil)))))
      pss_nil)
      (pss_cons (xs_if (xt_cmp (op_eqK K hr.units) (xv 1) pe_int (nomark _))
      (pss_one (ps_ret (pe_tup (pa_cons pe_str (pa_cons (xv 4) (pa_cons (pe_tup (pa_cons pe_str (pa_cons (xv 2) pa_nil))) pa_nil))))))
      pss_nil)
      (pss_cons (xs_if (xt_cmp (op_eqK K hr.units) (xv 1) pe_int (nomark _))
      (pss_one (ps_ret (pe_tup (pa_cons pe_str (pa_cons (xv 4) (pa_cons (xv 4) pa_nil))))))
      pss_nil)
      (pss_cons (xs_if (xt_cmp (op_eqK K hr.units) (xv 1) pe_int (nomark _))
      (pss_one (ps_ret (pe_tup (pa_cons pe_str (pa_cons (xv 4) (pa_cons (pe_tup (pa_cons pe_str (pa_cons (xv 2) pa_nil))) pa_nil))))))
      pss_nil)
      (pss_cons (xs_if (xt_cmp (op_eqK K hr.units) (xv 1) pe_int (nomark _))
      (pss_one (ps_ret (pe_tup (pa_cons pe_str (pa_cons (pe_tup (pa_cons pe_str (pa_cons (xv 4) (pa_cons (pe_tup (pa_cons pe_str (pa_cons (xv 2) pa_nil))) pa_nil)))) (pa_cons (pe_tup (pa_cons pe_str (pa_cons (pe_call G_pick (hr.mono (by omega)) (by rfl) T.g_pick T.F_pick.kp T.b_pick .nil pass0 (pa_cons (xv 0) (pa_cons pe_int pa_nil))) pa_nil))) (pa_cons (xv 4) pa_nil)))))))
      pss_nil)
      (pss_cons (xs_if (xt_cmp (op_eqK K hr.units) (xv 1) pe_int (nomark _))
      (pss_one (ps_ret (pe_tup (pa_cons pe_str (pa_cons (xv 4) (pa_cons (pe_tup (pa_cons pe_str (pa_cons pe_str pa_nil))) pa_nil))))))
      pss_nil)
      (pss_cons (xs_if (xt_cmp (op_eqK K hr.units) (xv 1) pe_int (nomark _))
      (pss_one (ps_ret (pe_tup (pa_cons pe_str (pa_cons (pe_tup (pa_cons pe_str (pa_cons (pe_tup (pa_cons pe_str (pa_cons pe_str pa_nil))) (pa_cons (pe_tup (pa_cons pe_str (pa_cons (xv 3) pa_nil))) pa_nil)))) (pa_cons (pe_tup (pa_cons pe_str (pa_cons (xv 2) pa_nil))) (pa_cons (xv 4) pa_nil)))))))
      pss_nil)
      (pss_one (ps_ret (pe_call G_form (hr.mono (by omega)) (by rfl) T.g_form T.F_form.kp T.b_form .nil pass0 (pa_cons (xv 0) (pa_cons (pe_lst (pa_cons pe_str (pa_cons pe_str pa_nil))) (pa_cons (pe_op op_addY pe_int (pe_call G_pick (hr.mono (by omega)) (by rfl) T.g_pick T.F_pick.kp T.b_pick .nil pass0 (pa_cons (xv 0) (pa_cons pe_int pa_nil)))) pa_nil))))))))))))))))))), ?_⟩
    refine ⟨G, M, b, o, 12, rfl, S, B, by decide, by decide, fun way o1 H1 w0 w1 B1 S1 => ?_⟩
    refine ⟨sz, fun l2 nl2 => ?_⟩
    obtain ⟨G2, s2, S2, h2⟩ := Sep.mk (o := .lst [.int 9, .int 9, .int 0, .int 1, .int 2, .int 3, .int 4, .int 5, .int 6, .int 7, .int 8]) S1 nl2
    refine ⟨G2, M, b, o1, l2, _, rfl, S2, B1.same s2, SqL.of h2, by decide, by decide, fun v3 o3 H3 hv3 B3 S3 => ?_⟩
    obtain ⟨n3, rfl, n30, n31⟩ := in_ints [9, 9, 0, 1, 2, 3, 4, 5, 6, 7, 8] (by decide) hv3
    refine ⟨sz, fun l4 nl4 => ?_⟩
    obtain ⟨G4, s4, S4, h4⟩ := Sep.mk (o := .lst [.int 4, .int 4, .int 0, .int 1, .int 2, .int 3]) S3 nl4
    refine ⟨G4, M, b, o3, l4, _, rfl, S4, B3.same s4, SqL.of h4, by decide, by decide, fun v5 o5 H5 hv5 B5 S5 => ?_⟩
    obtain ⟨n5, rfl, n50, n51⟩ := in_ints [4, 4, 0, 1, 2, 3] (by decide) hv5
    refine ⟨sz, fun t6 nt6 => ?_⟩
    obtain ⟨G6, s6, S6, f6⟩ := fGet (x := "item") S5 nt6
    have B6 := B5.same s6
    have s06 := s2.trans (s4.trans s6)
    have okI : Fm.ok (.get "item") := .inl rfl
    have okA : Fm.ok (.get "at") := .inr rfl
    have okW : Fm.ok (.is n3) := ⟨n30, n31⟩
    have okS : Fm.ok (.is n5) := ⟨n50, n51⟩
    refine ⟨fun _ => q _ _ _ _ _ s06 f6 okI (by decide) B6 S6, fun _ => ?_⟩
    refine ⟨fun _ => ⟨sz, fun t nt => ?_⟩, fun _ => ?_⟩
    · obtain ⟨G7, s7, S7, f7⟩ := fGet (x := "at") S6 nt
      exact q _ _ _ _ _ (s06.trans s7) f7 okA (by decide) (B6.same s7) S7
    refine ⟨fun _ => ⟨sz, fun t nt => ?_⟩, fun _ => ?_⟩
    · obtain ⟨G7, s7, S7, f7⟩ := fIs (n := n3) S6 nt
      exact q _ _ _ _ _ (s06.trans s7) f7 okW (by simp [Fm.dep]) (B6.same s7) S7
    refine ⟨fun _ => ⟨sz, fun t nt => ⟨sz, fun t2 nt2 => ?_⟩⟩, fun _ => ?_⟩
    · obtain ⟨G7, s7, S7, f7⟩ := fIs (n := n3) S6 nt
      obtain ⟨G8, s8, S8, f8⟩ := fSum S7 nt2 (f6.same' s7) f7
      exact q _ _ _ _ _ (s06.trans (s7.trans s8)) f8 ⟨okI, okW⟩ (by simp [Fm.dep]) (B6.same (s7.trans s8)) S8
    refine ⟨fun _ => ⟨sz, fun t nt => ?_⟩, fun _ => ?_⟩
    · obtain ⟨G7, s7, S7, f7⟩ := fSum S6 nt f6 f6
      exact q _ _ _ _ _ (s06.trans s7) f7 ⟨okI, okI⟩ (by simp [Fm.dep]) (B6.same s7) S7
    refine ⟨fun _ => ⟨sz, fun t nt => ⟨sz, fun t2 nt2 => ?_⟩⟩, fun _ => ?_⟩
    · obtain ⟨G7, s7, S7, f7⟩ := fIs (n := n3) S6 nt
      obtain ⟨G8, s8, S8, f8⟩ := fSame S7 nt2 (f6.same' s7) f7
      exact q _ _ _ _ _ (s06.trans (s7.trans s8)) f8 ⟨okI, okW⟩ (by simp [Fm.dep]) (B6.same (s7.trans s8)) S8
    refine ⟨fun _ => ⟨sz, fun t nt => ⟨sz, fun t2 nt2 => ?_⟩⟩, fun _ => ?_⟩
    · obtain ⟨G7, s7, S7, f7⟩ := fIs (n := n3) S6 nt
      obtain ⟨G8, s8, S8, f8⟩ := fSame S7 nt2 (f6.same' s7) f7
      refine ⟨G8, M, b, _, 10, rfl, S8, B6.same (s7.trans s8), by decide, by decide, fun r9 o9 H9 r90 r91 B9 S9 => ⟨sz, fun t3 nt3 => ⟨sz, fun t4 nt4 => ?_⟩⟩⟩
      obtain ⟨Ga, sa, Sa, fa⟩ := fIs (n := r9) S9 nt3
      obtain ⟨Gb, sb, Sb, fb⟩ := fPick Sa nt4 (f8.same' sa) fa (f6.same' (s7.trans (s8.trans sa)))
      exact q _ _ _ _ _ (s06.trans (s7.trans (s8.trans (sa.trans sb)))) fb ⟨⟨okI, okW⟩, ⟨r90, by omega⟩, okI⟩ (by simp [Fm.dep]) (B9.same (sa.trans sb)) Sb
    refine ⟨fun _ => ⟨sz, fun t nt => ⟨sz, fun t2 nt2 => ?_⟩⟩, fun _ => ?_⟩
    · obtain ⟨G7, s7, S7, f7⟩ := fGet (x := "at") S6 nt
      obtain ⟨G8, s8, S8, f8⟩ := fSum S7 nt2 (f6.same' s7) f7
      exact q _ _ _ _ _ (s06.trans (s7.trans s8)) f8 ⟨okI, okA⟩ (by simp [Fm.dep]) (B6.same (s7.trans s8)) S8
    refine ⟨fun _ => ⟨sz, fun t nt => ⟨sz, fun t2 nt2 => ⟨sz, fun t3 nt3 => ⟨sz, fun t4 nt4 => ⟨sz, fun t5 nt5 => ?_⟩⟩⟩⟩⟩, fun _ => ?_⟩
    · obtain ⟨G7, s7, S7, f7⟩ := fGet (x := "at") S6 nt
      obtain ⟨G8, s8, S8, f8⟩ := fIs (n := n5) S7 nt2
      obtain ⟨G9, s9, S9, f9⟩ := fSame S8 nt3 (f7.same' s8) f8
      obtain ⟨Ga, sa, Sa, fa⟩ := fIs (n := n3) S9 nt4
      obtain ⟨Gb, sb, Sb, fb⟩ := fPick Sa nt5 (f9.same' sa) fa (f6.same' (s7.trans (s8.trans (s9.trans sa))))
      exact q _ _ _ _ _ (s06.trans (s7.trans (s8.trans (s9.trans (sa.trans sb))))) fb ⟨⟨okA, okS⟩, okW, okI⟩ (by simp [Fm.dep]) (B6.same (s7.trans (s8.trans (s9.trans (sa.trans sb))))) Sb
    refine ⟨sz, fun l7 nl7 => ?_⟩
    obtain ⟨G7, s7, S7, h7⟩ := Sep.mk (o := .lst [.str "item", .str "at"]) S6 nl7
    refine ⟨G7, M, b, _, 4, rfl, S7, B6.same s7, by decide, by decide, fun r8 o8 H8 r80 r81 B8 S8 => ?_⟩
    refine ⟨G7, M, b, o8, l7, _, 2 + r8, rfl, S8, B8, SqL.of h7, by decide, by decide, fun x hx => ?_, by omega, by omega, fun v f o9 G9 H9 s9 f9 ok9 d9 B9 S9 => q _ _ _ _ _ (s06.trans (s7.trans s9)) f9 ok9 (by omega) B9 S9⟩
    rcases List.mem_cons.mp hx with rfl | hx
    · exact ⟨_, rfl, .inl rfl⟩
    · rw [List.mem_singleton.mp hx]
      exact ⟨_, rfl, .inr rfl⟩


end
end K26
set_option Elab.async false
set_option linter.all false
set_option maxRecDepth 100000
set_option maxHeartbeats 4000000
namespace K26
open PySem PySem.Spec PyProof.Rows L2 XL
section
variable {P : Program} {w : World} {K : PySem.W.Frag} {mg : Str → Option Value} {base : Heap}
/-! ### changed -/
theorem sub_len : ∀ {ds ns : List Int}, ds.Nodup → (∀ d ∈ ds, d ∈ ns) → ds.length ≤ ns.length
  | [], _, _, _ => Nat.zero_le _
  | d :: r, ns, nd, h => by
    have nd' := List.nodup_cons.mp nd
    have h1 : d ∈ ns := h d List.mem_cons_self
    have h2 : r.length ≤ (ns.erase d).length := sub_len nd'.2 fun x hx => by
      have ne : x ≠ d := fun e => nd'.1 (e ▸ hx)
      exact (List.mem_erase_of_ne ne).mpr (h x (List.mem_cons_of_mem _ hx))
    rw [List.length_erase_of_mem h1] at h2
    have h3 := List.length_pos_of_mem h1
    rw [List.length_cons]
    omega
def spare (ns : List Int) : List Int := dig.filter fun n => !decide (n ∈ ns)
theorem spare_pos {ns : List Int} (h : ns.length ≤ 5) : 0 < (spare ns).length := by
  apply Nat.pos_of_ne_zero
  intro e
  have e1 : spare ns = [] := List.eq_nil_of_length_eq_zero e
  have h2 : ∀ d ∈ dig, d ∈ ns := fun d hd => by
    have z := List.filter_eq_nil_iff.mp e1 d hd
    simpa using z
  have h3 := sub_len (by decide) h2
  have h4 : dig.length = 10 := rfl
  omega
theorem spare_mem {ns : List Int} {n : Int} (h : n ∈ spare ns) : n ∉ ns ∧ 0 ≤ n ∧ n ≤ 9 := by
  have z := List.mem_filter.mp h
  have e : ∀ n ∈ dig, 0 ≤ n ∧ n ≤ 9 := by decide
  exact ⟨by simpa using z.2, e n z.1⟩
theorem RowOk.sub {a b : List Int} (h : RowOk b) (s : a.Sublist b) : RowOk a := ⟨Nat.le_trans s.length_le h.len, h.nd.sublist s, fun n hn => h.lo n (s.subset hn)⟩
theorem RowOk.perm {a b : List Int} (h : RowOk b) (s : a.Perm b) : RowOk a := ⟨by rw [s.length_eq]; exact h.len, s.nodup_iff.mpr h.nd, fun n hn => h.lo n (s.mem_iff.mp hn)⟩
theorem RowOk.ins {a : List Int} {x : Int} {k : Nat} (h : RowOk a) (hl : a.length < 5) (hx : x ∉ a) (h0 : 0 ≤ x) (h9 : x ≤ 9) : RowOk (a.take k ++ [x] ++ a.drop k) := by
  have p : (a.take k ++ [x] ++ a.drop k).Perm (x :: a) := by
    rw [List.append_assoc, List.singleton_append]
    refine List.perm_middle.trans ?_
    rw [List.take_append_drop]
  have r : RowOk (x :: a) := ⟨by rw [List.length_cons]; omega, List.nodup_cons.mpr ⟨hx, h.nd⟩, fun n hn => by
    rcases List.mem_cons.mp hn with rfl | hn
    · exact ⟨h0, h9⟩
    · exact h.lo n hn⟩
  exact r.perm p
theorem RowOk.set {a : List Int} {x : Int} {k : Nat} (h : RowOk a) (hx : x ∉ a) (h0 : 0 ≤ x) (h9 : x ≤ 9) : RowOk (a.set k x) := by
  by_cases hk : k < a.length
  · have e : a.set k x = (a.eraseIdx k).take k ++ [x] ++ (a.eraseIdx k).drop k := by
      rw [List.set_eq_take_append_cons_drop, if_pos hk, List.append_assoc, List.singleton_append, List.eraseIdx_eq_take_drop_succ]
      rw [List.take_append_of_le_length (by simp; omega), List.drop_append_of_le_length (by simp; omega)]
      simp [List.take_take]
    rw [e]
    refine (h.sub (List.eraseIdx_sublist _ _)).ins ?_ (fun z => hx (List.mem_of_mem_eraseIdx z)) h0 h9
    rw [List.length_eraseIdx_of_lt hk]
    have := h.len
    omega
  · rw [List.set_eq_of_length_le (by omega)]
    exact h
def spChanged (K : PySem.W.Frag) : Sp := fun vs H Q _ => ∃ (G : Hp) (M : List (Addr × HO)) (b : Addr) (o : HO) (r : Addr) (n : List Int), vs = [.ref b, .ref r] ∧ Sep G ((b, o) :: M) H ∧ Bag G o ∧ Tu G r (n.map V.int) ∧ RowOk n ∧
  ∀ (r : Addr) (ns : List Int) (o' : HO) (G' H' : Hp), Same G G' → TupF G' r (ns.map V.int) → RowOk ns → Bag G' o' → Sep G' ((b, o') :: M) H' → Q (.ref r) H'
theorem ok_changed (T : Top K mg w) {k : Nat} (G_pick : FnOk P w K mg base CX0 k T.a_pick T.d_pick ["_law_bag_here", "_law_many"] spPick) (G_mingled : FnOk P w K mg base CX0 k T.a_mingled T.d_mingled ["_law_bag_here", "_law_things"] (spMingled K)) (G_choice : FnOk P w K mg base CX0 k T.a_choice T.d_choice ["_law_bag_here", "_law_things"] (spChoice K)) :
    FnOk P w K mg base CX0 (k + 1) T.a_changed T.d_changed ["_law_bag_here", "_law_row_here"] (spChanged K) := by
  refine T.F_changed.ok sc_changed (fun vs H Q E h => ?_) (fun cdv A outer s H vs Q E hr h => ?_)
  · obtain ⟨G, M, b, o, r, n, rfl, _⟩ := h
    rfl
  · obtain ⟨G, M, b, o, r, n, rfl, S, B, hrow, ro, q⟩ := h
    refine ⟨_, (pss_cons (ps_set (i := 2) sc_changed.nd rfl (.inl rfl) (pe_callTy (call_listK K) (by rfl) T.m_list (by decide +kernel) (pa_cons (xv 1) pa_nil)))
      (pss_cons (ps_setLc (i := 3) (own := [("_law_item", 5)]) (by rfl) sc_changed.nd rfl rfl (sw_true rfl rfl rfl (by decide +kernel)) (pi_range1 (by rfl) T.m_range (pa_cons pe_int pa_nil)) (blkOk_by (N := ["_law_bag_here", "_law_row_here", "_law_items", "_law_spare", "_law_way", "_law_item"]) (sc := defScope s_changed) (by decide +kernel)) (fun _ _ _ _ _ => (pg_name (i := 5) sc_changed.nd rfl (.inl rfl))) (fun _ _ _ _ _ => (pts_one (xt_cmp (notin_seqK K) (xv 5) (xv 1) (by rfl)))) (fun _ _ _ _ _ => (xv 5)))
      (pss_cons (ps_set (i := 4) sc_changed.nd rfl (.inl rfl) (pe_call G_pick (hr.mono (by omega)) (by rfl) T.g_pick T.F_pick.kp T.b_pick .nil pass0 (pa_cons (xv 0) (pa_cons pe_int pa_nil))))
      (pss_cons (xs_if (xt_cmp (op_eqK K hr.units) (xv 4) pe_int (nomark _))
      (pss_one (ps_ret (pe_callTy (call_tupleFK K) (by rfl) T.m_tuple (by decide +kernel) (pa_cons (pe_call G_mingled (hr.mono (by omega)) (by rfl) T.g_mingled T.F_mingled.kp T.b_mingled .nil pass0 (pa_cons (xv 0) (pa_cons (xv 2) pa_nil))) pa_nil))))
      pss_nil)
      (pss_cons (xs_if (xt_cmp (op_eqK K hr.units) (xv 4) pe_int (nomark _))
      (pss_one (ps_ret (pe_callTy (call_tupleFK K) (by rfl) T.m_tuple (by decide +kernel) (pa_cons (pe_revK K (xv 2) (pe_str (pe_un un_neg pe_int) fun _ _ _ h => ⟨1, rfl, h⟩)) pa_nil))))
      pss_nil)
      (pss_cons (xs_if (xt_cmp (op_eqK K hr.units) (xv 4) pe_int (nomark _))
      (pss_one (ps_ret (pe_callTy (call_tupleFK K) (by rfl) T.m_tuple (by decide +kernel) (pa_cons (pe_slice (sl_listK K) (xv 2) po_none (po_some (pe_call G_pick (hr.mono (by omega)) (by rfl) T.g_pick T.F_pick.kp T.b_pick .nil pass0 (pa_cons (xv 0) (pa_cons (pe_op op_addY (pe_callB (cr_lenK K) (by rfl) T.m_len (by decide +kernel) (pa_cons (xv 2) pa_nil)) pe_int) pa_nil))))) pa_nil))))
      pss_nil)
      (xss_cut (xs_if (PW.pt (xw_and (xt_cmp (op_eqK K hr.units) (xv 4) pe_int (nomark _)) (pw_and1 (xt_truK K (xv 2)))))
      (pss_one (ps_expr (pe_bmK K PySem.F.plainAttrs_list PySem.F.slot_list_pop PySem.F.type_list_pop mt_popAt (xv 2) (pa_cons (pe_call G_pick (hr.mono (by omega)) (by rfl) T.g_pick T.F_pick.kp T.b_pick .nil pass0 (pa_cons (xv 0) (pa_cons (pe_callB (cr_lenK K) (by rfl) T.m_len (by decide +kernel) (pa_cons (xv 2) pa_nil)) pa_nil))) pa_nil))))
      (pss_one (xs_if (PW.pt (xw_and (xt_cmp (op_eqK K hr.units) (xv 4) pe_int (nomark _)) (pw_and1 (xt_cmp op_ltY (pe_callB (cr_lenK K) (by rfl) T.m_len (by decide +kernel) (pa_cons (xv 2) pa_nil)) pe_int (nomark _)))))
      (pss_one (ps_expr (pe_bmK K PySem.F.plainAttrs_list PySem.F.slot_list_insert PySem.F.type_list_insert mt_insert (xv 2) (pa_cons (pe_call G_pick (hr.mono (by omega)) (by rfl) T.g_pick T.F_pick.kp T.b_pick .nil pass0 (pa_cons (xv 0) (pa_cons (pe_op op_addY (pe_callB (cr_lenK K) (by rfl) T.m_len (by decide +kernel) (pa_cons (xv 2) pa_nil)) pe_int) pa_nil))) (pa_cons (pe_call G_choice (hr.mono (by omega)) (by rfl) T.g_choice T.F_choice.kp T.b_choice .nil pass0 (pa_cons (xv 0) (pa_cons (xv 3) pa_nil))) pa_nil)))))
      (pss_one (xs_if (PW.pt (xw_and (xt_cmp op_gtY (xv 4) pe_int (nomark _)) (pw_and1 (xt_truK K (xv 2)))))
      (pss_one (ps_asg (pe_call G_choice (hr.mono (by omega)) (by rfl) T.g_choice T.F_choice.kp T.b_choice .nil pass0 (pa_cons (xv 0) (pa_cons (xv 3) pa_nil))) (pg_sub (xv 2) (pe_call G_pick (hr.mono (by omega)) (by rfl) T.g_pick T.F_pick.kp T.b_pick .nil pass0 (pa_cons (xv 0) (pa_cons (pe_callB (cr_lenK K) (by rfl) T.m_len (by decide +kernel) (pa_cons (xv 2) pa_nil)) pa_nil))) set_list)))
      pss_nil)))))
      (pss_one (ps_ret (pe_callTy (call_tupleFK K) (by rfl) T.m_tuple (by decide +kernel) (pa_cons (xv 2) pa_nil))))))))))), ?_⟩
    have l5 := ro.len
    refine ⟨r, _, rfl, .inr (hrow.same S.1).sq, fun I nI => ?_⟩
    have S1 := S.new (o := .lst (n.map V.int)) nI
    refine ⟨10, rfl, by decide, by decide, fun D nD => lc_range (lo := 0) (n := (10 : Int).toNat) (fun i H' => Sep G ((D, .lst (((dig.take i).filter fun x => !decide (x ∈ n)).map V.int)) :: (I, .lst (n.map V.int)) :: (b, o) :: M) H') (S1.new nD) (fun i H' hi p => ?_) (fun H2 S2 => ?_)⟩
    · have hd : dig[i]? = some ((0 : Int) + (i : Nat)) := by
        have : ∀ j : Nat, j < 10 → dig[j]? = some ((0 : Int) + (j : Nat)) := by decide
        exact this i hi
      rw [XL.take_snoc hd, List.filter_append, List.map_append]
      have fl : ((dig.take i).filter fun x => !decide (x ∈ n)).length ≤ 10 := Nat.le_trans (List.length_filter_le _ _) (by rw [List.length_take]; exact Nat.min_le_right _ _)
      refine ⟨rfl, r, _, rfl, .inr (hrow.same p.1).sq, rfl, ints_flat _, ?_⟩
      have e0 : (if true = true then !inV (V.int ((0 : Int) + (i : Nat))) (n.map V.int) else inV (V.int ((0 : Int) + (i : Nat))) (n.map V.int)) = !decide (((0 : Int) + (i : Nat)) ∈ n) := by
        rw [if_pos rfl, inV_int]
      rw [e0]
      refine tst (fun e => ?_) (fun e => ?_)
      · rw [List.filter_cons_of_pos (p := fun x => !decide (x ∈ n)) e, List.filter_nil]
        exact ⟨_, p.hd, by rw [List.length_map]; exact smallL (by omega), p.set⟩
      · rw [List.filter_cons_of_neg (p := fun x => !decide (x ∈ n)) (by show ¬ (!decide (((0 : Int) + (i : Nat)) ∈ n)) = true; rw [e]; exact Bool.false_ne_true), List.filter_nil, List.map_nil, List.append_nil]
        exact p
    have S2' : Sep G ((D, .lst ((spare n).map V.int)) :: (I, .lst (n.map V.int)) :: (b, o) :: M) H2 := S2
    have s3 := S2'.frzS
    have S3 := S2'.frz
    have hD : upd G D (.lst ((spare n).map V.int)) D = some (.lst ((spare n).map V.int)) := upd_same
    have B3 := B.same s3
    generalize upd G D (.lst ((spare n).map V.int)) = G3 at *
    have sp0 := spare_pos l5
    have sp1 : (spare n).length ≤ 10 := List.length_filter_le _ _
    -- what is handed back
    have fin : ∀ (ys : List Int) (o' : HO) (G4 H4 : Hp), Same G3 G4 → RowOk ys → Bag G4 o' → Sep G4 ((b, o') :: M) H4 → ∀ l ob, H4 l = none → ob.dict = none → Q (.ref l) (upd H4 l (.frz ob (.tup (ys.map V.int)))) := fun ys o' G4 H4 s4 ry B4 S4 l ob nl hob =>
      q l ys o' _ _ (s3.trans (s4.trans (S4.grow nl))) ⟨ob, hob, upd_same⟩ ry (B4.same (S4.grow nl)) (S4.newG nl)
    refine ⟨G3, _, b, o, 7, rfl, S3.sw, B3, by decide, by decide, fun way o4 H4 w0 w1 B4 S4 => ?_⟩
    have S4' := S4.sw
    refine ⟨fun _ => ?_, fun _ => ?_⟩
    · have S5 := S4'.frz
      have s5 := S4'.frzS
      refine ⟨_, M, b, o4, I, _, rfl, S5, B4.same s5, SqL.of upd_same, by rw [List.length_map]; omega, fun p ys o6 G6 H6 s6 hp pm B6 S6 => ?_⟩
      obtain ⟨ms, rfl, pm'⟩ := perm_ints pm
      exact ⟨p, _, rfl, .inl ⟨SqL.of (S6.st hp), fin ms o6 G6 H6 (s5.trans s6) (ro.perm pm') B6 S6⟩⟩
    refine ⟨fun _ => ?_, fun _ => ?_⟩
    · refine ⟨I, _, rfl, SqL.of S4'.hd, fun p np => ?_⟩
      rw [← List.map_reverse]
      have S5 := S4'.drop.newG (o := .lst (n.reverse.map V.int)) np
      have s5 := S4'.drop.grow (o := .lst (n.reverse.map V.int)) np
      exact ⟨p, _, rfl, .inl ⟨SqL.of (S5.st upd_same), fin _ o4 _ _ s5 (ro.perm (List.reverse_perm n)) (B4.same s5) S5⟩⟩
    refine ⟨fun _ => ?_, fun _ => ?_⟩
    · refine ⟨_, .inl (SqL.of S4'.hd), G3, _, b, o4, _, rfl, S4, B4, by rw [List.length_map]; omega, by rw [List.length_map]; omega, fun r5 o5 H5 r50 r51 B5 S5 => ?_⟩
      have S5' := S5.sw
      refine ⟨_, rfl, I, _, rfl, SqL.of S5'.hd, fun p np => ?_⟩
      rw [cut_to _ r50, ← List.map_take]
      have S6 := S5'.drop.newG (o := .lst ((n.take r5.toNat).map V.int)) np
      have s6 := S5'.drop.grow (o := .lst ((n.take r5.toNat).map V.int)) np
      exact ⟨p, _, rfl, .inl ⟨SqL.of (S6.st upd_same), fin _ o5 _ _ s6 (ro.sub (List.take_sublist _ _)) (B5.same s6) S6⟩⟩
    -- one less, one more, one other
    refine ⟨fun σ H' => ∃ (ys : List Int) (o' : HO), σ = [some (.ref b), some (.ref r), some (.ref I), some (.ref D), some (.int way), none] ∧ RowOk ys ∧ Bag G3 o' ∧ Sep G3 ((I, .lst (ys.map V.int)) :: (b, o') :: M) H', ?_, fun σ H' h => ?_⟩
    · have same : ∃ (ys : List Int) (o' : HO), ([some (.ref b), some (.ref r), some (.ref I), some (.ref D), some (.int way), none] : List (Option V)) = [some (.ref b), some (.ref r), some (.ref I), some (.ref D), some (.int way), none] ∧ RowOk ys ∧ Bag G3 o' ∧ Sep G3 ((I, .lst (ys.map V.int)) :: (b, o') :: M) H4 := ⟨n, o4, rfl, ro, B4, S4'⟩
      have tru : TruV K (.ref I) H4 (!(n.map V.int).isEmpty) := .inl ⟨_, SqL.of S4'.hd, rfl⟩
      have third : (xIfS (xAnd (xB (tOp (yCmp fun i j => decide (j < i)) (xVar 4) (tC (V.int 4)))) (xTru K (xVar 2))) (tAsg (tCall (spChoice K) [] E0 (tCons (xVar 0) (tCons (xVar 3) tNil))) (gSub (xVar 2) (tCall spPick [] E0 (tCons (xVar 0) (tCons (tCB (yLen K) (tCons (xVar 2) tNil)) tNil))) rSetL)) tNext)
          { nx := fun σ H' => ∃ (ys : List Int) (o' : HO), σ = [some (.ref b), some (.ref r), some (.ref I), some (.ref D), some (.int way), none] ∧ RowOk ys ∧ Bag G3 o' ∧ Sep G3 ((I, .lst (ys.map V.int)) :: (b, o') :: M) H', rt := Q } [some (.ref b), some (.ref r), some (.ref I), some (.ref D), some (.int way), none] H4 := by
        refine ⟨fun _ => ⟨_, tru, fun e => ?_, fun _ => same⟩, fun _ => ⟨ff, fun _ => same⟩⟩
        have n0 : 0 < n.length := by
          cases n with
          | nil => cases e
          | cons _ _ => simp
        refine ⟨G3, _, b, o4, D, _, rfl, S4, B4, SqL.of hD, by rw [List.length_map]; exact sp0, by rw [List.length_map]; omega, fun v5 o5 H5 hv5 B5 S5 => ?_⟩
        obtain ⟨x, hx, rfl⟩ := List.mem_map.mp hv5
        obtain ⟨x1, x2, x3⟩ := spare_mem hx
        refine ⟨_, .inl (SqL.of S5.sw.hd), G3, _, b, o5, _, rfl, S5, B5, by rw [List.length_map]; omega, by rw [List.length_map]; omega, fun r6 o6 H6 r60 r61 B6 S6 => ?_⟩
        have S6' := S6.sw
        rw [List.length_map] at r61
        refine ⟨I, _, r6, r6.toNat, rfl, rfl, S6'.hd, ?_, n.set r6.toNat x, o6, rfl, ro.set x1 x2 x3, B6, ?_⟩
        · rw [List.length_map]
          unfold ixN
          rw [if_pos r60, if_pos (by omega)]
        · rw [List.map_set]
          exact S6'.set
      refine ⟨fun _ => ⟨_, tru, fun e => ?_, fun _ => ?_⟩, fun _ => ⟨ff, fun _ => ?_⟩⟩
      · have n0 : 0 < n.length := by
          cases n with
          | nil => cases e
          | cons _ _ => simp
        refine ⟨.inl ⟨rfl, _, SqL.of S4'.hd⟩, _, .inl (SqL.of S4'.hd), G3, _, b, o4, _, rfl, S4, B4, by rw [List.length_map]; omega, by rw [List.length_map]; omega, fun r6 o6 H6 r60 r61 B6 S6 => ?_⟩
        have S6' := S6.sw
        rw [List.length_map] at r61
        have hk : r6.toNat < n.length := by omega
        refine ⟨I, n.map V.int, r6, r6.toNat, .int n[r6.toNat], rfl, rfl, S6'.hd, by omega, by omega, seqIdx r60 (by rw [List.length_map]; exact r61), ?_, n.eraseIdx r6.toNat, o6, rfl, ro.sub (List.eraseIdx_sublist _ _), B6, ?_⟩
        · rw [List.getElem?_map, List.getElem?_eq_getElem hk]
          rfl
        · have e5 : (n.eraseIdx r6.toNat).map V.int = (n.map V.int).eraseIdx r6.toNat := by
            simp [List.eraseIdx_eq_take_drop_succ, List.map_take, List.map_drop]
          rw [e5]
          exact S6'.set
      all_goals
        refine ⟨fun _ => ⟨_, .inl (SqL.of S4'.hd), fun e5 => ?_, fun _ => third⟩, fun _ => ⟨ff, fun _ => third⟩⟩
        have e6 : (((n.map V.int).length : Nat) : Int) < 5 := of_decide_eq_true e5
        rw [List.length_map] at e6
        refine ⟨.inl ⟨rfl, _, SqL.of S4'.hd⟩, _, .inl (SqL.of S4'.hd), G3, _, b, o4, _, rfl, S4, B4, by rw [List.length_map]; omega, by rw [List.length_map]; omega, fun r6 o6 H6 r60 r61 B6 S6 => ?_⟩
        rw [List.length_map] at r61
        refine ⟨G3, _, b, o6, D, _, rfl, S6, B6, SqL.of hD, by rw [List.length_map]; exact sp0, by rw [List.length_map]; omega, fun v7 o7 H7 hv7 B7 S7 => ?_⟩
        obtain ⟨x, hx, rfl⟩ := List.mem_map.mp hv7
        obtain ⟨x1, x2, x3⟩ := spare_mem hx
        refine ⟨I, n.map V.int, r6, .int x, rfl, rfl, S7.sw.hd, by rw [List.length_map]; exact smallL (by omega), r60, by omega, n.take r6.toNat ++ [x] ++ n.drop r6.toNat, o7, rfl, ro.ins (by omega) x1 x2 x3, B7, ?_⟩
        rw [List.map_append, List.map_append, List.map_take, List.map_drop]
        exact S7.sw.set
    · obtain ⟨ys, o5, rfl, ry, B5, S5⟩ := h
      have S6 := S5.frz
      have s6 := S5.frzS
      exact ⟨I, _, rfl, .inl ⟨SqL.of S5.hd, fin ys o5 _ _ s6 ry (B5.same s6) S6⟩⟩

end
end K26
set_option Elab.async false
set_option linter.all false
set_option maxRecDepth 100000
set_option maxHeartbeats 4000000
namespace K26
open PySem PySem.Spec PyProof.Rows L2 XL
section
variable {P : Program} {w : World} {K : PySem.W.Frag} {mg : Str → Option Value} {base : Heap}
/-! ### idents: no two alike -/
theorem ids_nodup (f : Fm) (ns : List Int) : (ids f ns).Nodup := by
  unfold ids List.Nodup
  rw [List.pairwise_map]
  refine List.Pairwise.imp ?_ List.pairwise_lt_range
  intro a b hab e
  have e1 : gv f ns a = gv f ns b := congrArg Prod.fst e
  have e2 : (((List.range a).map (gv f ns)).count (gv f ns a) : Int) = (((List.range b).map (gv f ns)).count (gv f ns b) : Nat) := congrArg Prod.snd e
  have h1 : ((List.range (a + 1)).map (gv f ns)).count (gv f ns b) ≤ ((List.range b).map (gv f ns)).count (gv f ns b) := List.Sublist.count_le _ ((List.range_sublist.mpr (by omega)).map _)
  rw [List.range_succ, List.map_append, List.count_append, List.map_singleton, e1, List.count_singleton_self] at h1
  rw [e1] at e2
  omega
theorem ids_len (f : Fm) (ns : List Int) : (ids f ns).length = ns.length := by simp [ids]
theorem nodup_at {b : List (Int × Int)} (nd : b.Nodup) {k : Nat} {p : Int × Int} (hk : b[k]? = some p) {i : Nat} : b[i]? = some p ↔ i = k := by
  refine ⟨fun h => ?_, fun e => e ▸ hk⟩
  have h1 := (List.getElem?_eq_some_iff.mp h).1
  have h2 := (List.getElem?_eq_some_iff.mp hk).1
  exact (List.getElem?_inj h1 nd).mp (h.trans hk.symm)
theorem Pr.dp {K : PySem.W.Frag} {H : Hp} {v : V} {p : Int × Int} (h : Pr H v p) : Dp K H v (prd p) := by
  obtain ⟨a, rfl, ha⟩ := h
  exact .tup (SqT.of ha) (.cons (.int _) (.cons (.int _) .nil))
theorem prs_dp {K : PySem.W.Frag} {H : Hp} : ∀ {ws : List V} {ps : List (Int × Int)}, Paired (Pr H) ws ps → DpAll K H ws (ps.map prd)
  | _, _, .nil => .nil
  | _, _, .cons h t => .cons h.dp (prs_dp t)

/-! ### rows that a key tells apart, or takes for one -/
def Fine (b c : List (Int × Int)) (n1 n2 : List Int) (j : Nat) : Prop := ∀ i, i < n1.length → (b[i]? = c[j]? ↔ n1[i]? = n2[j]?)
def Alike (f : Fm) (n1 n2 : List Int) : Prop := ∀ j, j < n2.length → Fine (ids f n1) (ids f n2) n1 n2 j
theorem nodup_int {b : List Int} (nd : b.Nodup) {k : Nat} {p : Int} (hk : b[k]? = some p) {i : Nat} : b[i]? = some p ↔ i = k := by
  refine ⟨fun h => ?_, fun e => e ▸ hk⟩
  have h1 := (List.getElem?_eq_some_iff.mp h).1
  exact (List.getElem?_inj h1 nd).mp (h.trans hk.symm)
theorem getD_some {ns : List Int} {i : Nat} (h : i < ns.length) : ns[i]? = some (ns.getD i 0) := by
  rw [List.getD_eq_getElem?_getD, List.getElem?_eq_getElem h]
  rfl
structure RowId (f : Fm) (n : List Int) (G : Hp) (r rb : Addr) : Prop where
  row : Tu G r (n.map V.int)
  ok : RowOk n
  id : ∃ ws, TupF G rb ws ∧ Paired (Pr G) ws (ids f n)
theorem RowId.same {f : Fm} {n : List Int} {G G' : Hp} {r rb : Addr} (e : Same G G') (h : RowId f n G r rb) : RowId f n G' r rb := by
  obtain ⟨ws, h1, h2⟩ := h.id
  exact ⟨h.row.same e, h.ok, ws, h1.same e, prd_imp (fun _ _ => Pr.same e) h2⟩
/-! ### faithful -/
def RowsAt (G : Hp) (v : V) (x : Addr × List Int) : Prop := v = .ref x.1 ∧ TupF G x.1 (x.2.map V.int) ∧ RowOk x.2
theorem RowsAt.same {G G' : Hp} (e : Same G G') {v : V} {x : Addr × List Int} (h : RowsAt G v x) : RowsAt G' v x := ⟨h.1, h.2.1.same e, h.2.2⟩

end
end K26
set_option Elab.async false
set_option linter.all false
set_option maxRecDepth 100000
set_option maxHeartbeats 4000000
namespace K26
open PySem PySem.Spec PyProof.Rows L2 XL
section
variable {P : Program} {w : World} {K : PySem.W.Frag} {mg : Str → Option Value} {base : Heap}
/-! ### rows shown -/
def RowA (G : Hp) (v : V) : Prop := ∃ x, RowsAt G v x
theorem RowA.same {G G' : Hp} (e : Same G G') {v : V} (h : RowA G v) : RowA G' v := let ⟨x, h⟩ := h; ⟨x, h.same e⟩
def spShown (K : PySem.W.Frag) : Sp := fun vs H Q _ => ∃ (G : Hp) (M : List (Addr × HO)) (b : Addr) (o : HO), vs = [.ref b] ∧ Sep G ((b, o) :: M) H ∧ Bag G o ∧
  ∀ (m : Addr) (us : List V) (xs : List (Addr × List Int)) (o' : HO) (G' H' : Hp), Same G G' → TupF G' m us → Paired (RowsAt G') us xs → us.length ≤ 5 → 1 ≤ us.length → Bag G' o' → Sep G' ((b, o') :: M) H' → Q (.ref m) H'
theorem ok_rows_shown (T : Top K mg w) {k : Nat} (G_pick : FnOk P w K mg base CX0 k T.a_pick T.d_pick ["_law_bag_here", "_law_many"] spPick) (G_mingled : FnOk P w K mg base CX0 k T.a_mingled T.d_mingled ["_law_bag_here", "_law_things"] (spMingled K))
    (G_row : FnOk P w K mg base CX0 k T.a_row T.d_row ["_law_bag_here", "_law_most"] (spLRow K)) (G_changed : FnOk P w K mg base CX0 k T.a_changed T.d_changed ["_law_bag_here", "_law_row_here"] (spChanged K)) :
    FnOk P w K mg base CX0 (k + 1) T.a_rows_shown T.d_rows_shown ["_law_bag_here"] (spShown K) := by
  refine T.F_rows_shown.ok sc_rows_shown (fun vs H Q E h => ?_) (fun cdv A outer s H vs Q E hr h => ?_)
  · obtain ⟨G, M, b, o, rfl, _⟩ := h
    rfl
  · obtain ⟨G, M, b, o, rfl, S, B, q⟩ := h
    refine ⟨_, (pss_cons (ps_set (i := 1) sc_rows_shown.nd rfl (.inl rfl) (pe_lst (pa_cons (pe_call G_row (hr.mono (by omega)) (by rfl) T.g_row T.F_row.kp T.b_row .nil pass0 (pa_cons (xv 0) (pa_cons pe_int pa_nil))) pa_nil)))
      (pss_cons (ps_set (i := 2) sc_rows_shown.nd rfl (.inl rfl) (pe_call G_pick (hr.mono (by omega)) (by rfl) T.g_pick T.F_pick.kp T.b_pick .nil pass0 (pa_cons (xv 0) (pa_cons pe_int pa_nil))))
      (pss_cons (ps_for PassesOwn.never rfl (pi_range1 (by rfl) T.m_range (pa_cons (pe_call G_pick (hr.mono (by omega)) (by rfl) T.g_pick T.F_pick.kp T.b_pick .nil pass0 (pa_cons (xv 0) (pa_cons pe_int pa_nil))) pa_nil)) (pg_name (i := 3) sc_rows_shown.nd rfl (.inl rfl))
      (pss_cons (ps_set (i := 4) sc_rows_shown.nd rfl (.inl rfl) (pe_ix (ix_k K) (xv 1) (pe_call G_pick (hr.mono (by omega)) (by rfl) T.g_pick T.F_pick.kp T.b_pick .nil pass0 (pa_cons (xv 0) (pa_cons (pe_callB (cr_lenK K) (by rfl) T.m_len (by decide +kernel) (pa_cons (xv 1) pa_nil)) pa_nil))) (fun _ _ => rfl)))
      (pss_one (xs_if (xt_cmp (op_eqK K hr.units) (xv 2) pe_int (nomark _))
      (pss_one (ps_expr (pe_bmK K PySem.F.plainAttrs_list PySem.F.slot_list_append PySem.F.type_list_append mt_append (xv 1) (pa_cons (pe_call G_row (hr.mono (by omega)) (by rfl) T.g_row T.F_row.kp T.b_row .nil pass0 (pa_cons (xv 0) (pa_cons pe_int pa_nil))) pa_nil))))
      (pss_one (xs_if (xt_cmp (op_eqK K hr.units) (xv 2) pe_int (nomark _))
      (pss_one (ps_expr (pe_bmK K PySem.F.plainAttrs_list PySem.F.slot_list_append PySem.F.type_list_append mt_append (xv 1) (pa_cons (pe_slice (sl_tupFK K) (xv 4) po_none (po_some (pe_call G_pick (hr.mono (by omega)) (by rfl) T.g_pick T.F_pick.kp T.b_pick .nil pass0 (pa_cons (xv 0) (pa_cons (pe_op op_addY (pe_callB (cr_lenK K) (by rfl) T.m_len (by decide +kernel) (pa_cons (xv 4) pa_nil)) pe_int) pa_nil))))) pa_nil))))
      (pss_one (ps_expr (pe_bmK K PySem.F.plainAttrs_list PySem.F.slot_list_append PySem.F.type_list_append mt_append (xv 1) (pa_cons (pe_call G_changed (hr.mono (by omega)) (by rfl) T.g_changed T.F_changed.kp T.b_changed .nil pass0 (pa_cons (xv 0) (pa_cons (xv 4) pa_nil))) pa_nil))))))))))
      (pss_one (ps_ret (pe_callTy (call_tupleFK K) (by rfl) T.m_tuple (by decide +kernel) (pa_cons (pe_call G_mingled (hr.mono (by omega)) (by rfl) T.g_mingled T.F_mingled.kp T.b_mingled .nil pass0 (pa_cons (xv 0) (pa_cons (xv 1) pa_nil))) pa_nil))))))), ?_⟩
    refine ⟨G, M, b, o, 5, rfl, S, B, by decide, by decide, fun r1 n1 o1 G1 H1 s1 h1 ro1 B1 S1 => ⟨sz, fun R nR => ?_⟩⟩
    have S2 := S1.new (o := .lst [.ref r1]) nR
    refine ⟨G1, _, b, o1, 4, rfl, S2.sw, B1, by decide, by decide, fun way o3 H3 w0 w1 B3 S3 => ?_⟩
    refine ⟨G1, _, b, o3, 4, rfl, S3, B3, by decide, by decide, fun st o4 H4 st0 st1 B4 S4 => ?_⟩
    refine ⟨_, rfl, by omega, by omega, for_range (lo := 0) (n := st.toNat) (fun i σ H' => ∃ (y3 y4 : Option V) (G' : Hp) (o' : HO) (us : List V), σ = [some (.ref b), some (.ref R), some (.int way), y3, y4] ∧ Same G1 G' ∧ Bag G' o' ∧ Sep G' ((R, .lst us) :: (b, o') :: M) H' ∧ us.length = i + 1 ∧ ∀ u ∈ us, RowA G' u)
      ⟨_, _, G1, o4, [.ref r1], rfl, Same.refl _, B4, S4.sw, rfl, fun u hu => by rw [List.mem_singleton.mp hu]; exact ⟨(r1, n1), rfl, h1, ro1⟩⟩ (fun i σ H' hi h => ?_) (fun σ H' h => ?_)⟩
    · obtain ⟨y3, y4, G5, o5, us, rfl, s5, B5, S5, ul, hu⟩ := h
      refine ⟨_, .inl (SqL.of S5.hd), G5, _, b, o5, _, rfl, S5.sw, B5, by omega, by omega, fun r6 o6 H6 r60 r61 B6 S6 => ?_⟩
      obtain ⟨v, hv, hm⟩ := atI_in r60 r61
      obtain ⟨⟨rv, nv⟩, rfl, hrv, rov⟩ := hu v hm
      refine ⟨_, _, .inl (SqL.of S6.sw.hd), hv, ?_⟩
      have add : ∀ (G7 H7 : Hp) (o7 : HO) (u : V), Same G5 G7 → Bag G7 o7 → Sep G7 ((b, o7) :: (R, .lst us) :: M) H7 → RowA G7 u → ∃ (y3 y4 : Option V) (G' : Hp) (o' : HO) (us' : List V), ([some (.ref b), some (.ref R), some (.int way), some (.int (0 + (i : Nat))), some (.ref rv)] : List (Option V)) = [some (.ref b), some (.ref R), some (.int way), y3, y4] ∧ Same G1 G' ∧ Bag G' o' ∧ Sep G' ((R, .lst us') :: (b, o') :: M) (upd H7 R (.lst (us ++ [u]))) ∧ us'.length = i + 1 + 1 ∧ ∀ u ∈ us', RowA G' u :=
        fun G7 H7 o7 u s7 B7 S7 ru => ⟨_, _, G7, o7, us ++ [u], rfl, s5.trans s7, B7, S7.sw.set, by rw [List.length_append, ul]; rfl, fun x hx => by
          rcases List.mem_append.mp hx with h | h
          · exact (hu x h).same s7
          · rw [List.mem_singleton.mp h]; exact ru⟩
      have ty : ∀ H7 G7 o7, Sep G7 ((b, o7) :: (R, .lst us) :: M) H7 → SqL K H7 R us := fun H7 G7 o7 S7 => SqL.of S7.sw.hd
      refine ⟨fun _ => ?_, fun _ => ⟨fun _ => ?_, fun _ => ?_⟩⟩
      · refine ⟨.inl ⟨rfl, _, ty _ _ _ S6⟩, G5, _, b, o6, 5, rfl, S6, B6, by decide, by decide, fun r7 n7 o7 G7 H7 s7 h7 ro7 B7 S7 => ?_⟩
        exact ⟨R, us, _, rfl, rfl, S7.sw.hd, smallL (by omega), add G7 H7 o7 _ s7 B7 S7 ⟨(r7, n7), rfl, h7, ro7⟩⟩
      · have hs6 : SqT K H6 rv (nv.map V.int) := (hrv.same S6.1).tu.sq
        have l5 : nv.length ≤ 5 := rov.len
        refine ⟨.inl ⟨rfl, _, ty _ _ _ S6⟩, _, .inr hs6, G5, _, b, o6, _, rfl, S6, B6, by rw [List.length_map]; omega, by rw [List.length_map]; omega, fun r7 o7 H7 r70 r71 B7 S7 => ?_⟩
        refine ⟨_, rfl, rv, _, rfl, (hrv.same S7.1).tu.sq, fun _ => ?_, fun _ p ob np hob => ?_⟩
        · exact ⟨R, us, _, rfl, rfl, S7.sw.hd, smallL (by omega), add G5 H7 o7 _ (Same.refl _) B7 S7 ⟨(rv, nv), rfl, hrv, rov⟩⟩
        · rw [cut_to _ r70, ← List.map_take]
          have S8 := S7.newG (o := .frz ob (.tup ((nv.take r7.toNat).map V.int))) np
          have s8 := S7.grow (o := .frz ob (.tup ((nv.take r7.toNat).map V.int))) np
          exact ⟨R, us, _, rfl, rfl, S8.sw.hd, smallL (by omega), add _ _ o7 _ s8 (B7.same s8) S8 ⟨(p, nv.take r7.toNat), rfl, ⟨ob, hob, upd_same⟩, rov.sub (List.take_sublist _ _)⟩⟩
      · refine ⟨.inl ⟨rfl, _, ty _ _ _ S6⟩, G5, _, b, o6, rv, nv, rfl, S6, B6, hrv.tu, rov, fun r7 n7 o7 G7 H7 s7 h7 ro7 B7 S7 => ?_⟩
        exact ⟨R, us, _, rfl, rfl, S7.sw.hd, smallL (by omega), add G7 H7 o7 _ s7 B7 S7 ⟨(r7, n7), rfl, h7, ro7⟩⟩
    · obtain ⟨y3, y4, G5, o5, us, rfl, s5, B5, S5, ul, hu⟩ := h
      have S6 := S5.frz
      have s6 := S5.frzS
      refine ⟨_, M, b, o5, R, us, rfl, S6, B5.same s6, SqL.of upd_same, by omega, fun p ys o7 G7 H7 s7 hp pm B7 S7 => ?_⟩
      refine ⟨p, ys, rfl, .inl ⟨SqL.of (S7.st hp), fun t ob nt hob => ?_⟩⟩
      have s8 := S7.grow (o := .frz ob (.tup ys)) nt
      obtain ⟨xs, hxs⟩ : ∃ xs, Paired (RowsAt (upd G7 t (.frz ob (.tup ys)))) ys xs := prd_ex fun y hy => (hu y (pm.mem_iff.mp hy)).same (s6.trans (s7.trans s8))
      have yl := pm.length_eq
      exact q t ys xs o7 _ _ (s1.trans (s5.trans (s6.trans (s7.trans s8)))) ⟨ob, hob, upd_same⟩ hxs (by omega) (by omega) (B7.same s8) (S7.newG nt)

end
end K26
set_option Elab.async false
set_option linter.all false
set_option maxRecDepth 100000
set_option maxHeartbeats 4000000
namespace K26
open PySem PySem.Spec PyProof.Rows L2 XL
section
variable {P : Program} {w : World} {K : PySem.W.Frag} {mg : Str → Option Value} {base : Heap}
/-! ### numbers by keys, in order -/
section
variable {α : Type} [DecidableEq α]
def look (b : List α) (num : List Int) (p : α) : Option Int := ((b.zip num).find? fun z => decide (z.1 = p)).map (·.2)
theorem look_nil (p : α) : look ([] : List α) [] p = none := rfl
theorem look_at : ∀ {b : List α} {num : List Int} {i : Nat} {p : α} {v : Int}, b.Nodup → b[i]? = some p → num[i]? = some v → look b num p = some v
  | [], _, _, _, _, _, h, _ => by simp at h
  | _ :: _, [], _, _, _, _, _, h => by simp at h
  | x :: r, y :: t, 0, p, v, nd, h1, h2 => by
    simp at h1 h2
    subst h1 h2
    simp [look]
  | x :: r, y :: t, i + 1, p, v, nd, h1, h2 => by
    rw [List.getElem?_cons_succ] at h1 h2
    have nd' := List.nodup_cons.mp nd
    have ne : ¬ x = p := fun e => nd'.1 (e ▸ List.mem_of_getElem? h1)
    have z := look_at nd'.2 h1 h2
    unfold look at z ⊢
    rw [List.zip_cons_cons, List.find?_cons_of_neg (by simpa using ne)]
    exact z
theorem look_none : ∀ {b : List α} {num : List Int} {p : α}, p ∉ b → look b num p = none
  | [], _, _, _ => by simp [look]
  | _ :: _, [], _, _ => by simp [look]
  | x :: r, y :: t, p, h => by
    have ne : ¬ x = p := fun e => h (e ▸ List.mem_cons_self)
    have z := look_none (num := t) fun e => h (List.mem_cons_of_mem _ e)
    unfold look at z ⊢
    rw [List.zip_cons_cons, List.find?_cons_of_neg (by simpa using ne)]
    exact z
theorem look_snoc {b : List α} {num : List Int} {p : α} {v : Int} (hl : b.length = num.length) (hp : p ∉ b) (q : α) : look (b ++ [p]) (num ++ [v]) q = if q = p then some v else look b num q := by
  unfold look
  rw [List.zip_append hl, List.find?_append]
  by_cases e : q = p
  · subst e
    have z : (b.zip num).find? (fun z => decide (z.1 = q)) = none := by
      have z := look_none (num := num) hp
      unfold look at z
      exact Option.map_eq_none_iff.mp z
    rw [z, if_pos rfl]
    simp
  · rw [if_neg e]
    have ne : ¬ p = q := fun h => e h.symm
    cases (b.zip num).find? (fun z => decide (z.1 = q)) <;> simp [ne]
theorem look_set : ∀ {b : List α} {num : List Int} {j : Nat} {p : α} {v : Int}, b.Nodup → b[j]? = some p → b.length = num.length → ∀ q, look b (num.set j v) q = if q = p then some v else look b num q
  | [], _, _, _, _, _, h, _, _ => by simp at h
  | _ :: _, [], _, _, _, _, _, h, _ => by simp at h
  | x :: r, y :: t, 0, p, v, nd, h, hl, q => by
    simp at h
    subst h
    by_cases e : q = x
    · subst e; simp [look]
    · have ne : ¬ x = q := fun h => e h.symm
      simp [look, e, ne]
  | x :: r, y :: t, j + 1, p, v, nd, h, hl, q => by
    rw [List.getElem?_cons_succ] at h
    have nd' := List.nodup_cons.mp nd
    have ne : ¬ x = p := fun e => nd'.1 (e ▸ List.mem_of_getElem? h)
    have z := look_set (v := v) nd'.2 h (by simpa using hl) q
    by_cases e : x = q
    · subst e
      simp [look, ne]
    · unfold look at z ⊢
      rw [List.set_cons_succ, List.zip_cons_cons, List.zip_cons_cons, List.find?_cons_of_neg (by simpa using e), List.find?_cons_of_neg (by simpa using e)]
      exact z
/-- the dict kvs holds the numbers num at the keys b -/
structure Hold {κ : Type} [DecidableEq κ] (key : α → κ) (kvs : List (κ × V)) (b : List α) (num : List Int) : Prop where
  at_ : ∀ p, valV kvs (key p) = (look b num p).map V.int
  len : kvs.length ≤ b.length
  num : b.length = num.length
theorem Hold.nil {κ : Type} [DecidableEq κ] {key : α → κ} : Hold key [] ([] : List α) [] := ⟨fun _ => rfl, Nat.le_refl _, rfl⟩
theorem Hold.snoc {κ : Type} [DecidableEq κ] {key : α → κ} (inj : ∀ p q, key p = key q → p = q) {kvs : List (κ × V)} {b : List α} {num : List Int} (h : Hold key kvs b num) {p : α} {v : Int} (hp : p ∉ b) : Hold key (putK kvs (key p) (.int v)) (b ++ [p]) (num ++ [v]) := by
  refine ⟨fun q => ?_, ?_, by simp [h.num]⟩
  · rw [valV_put, look_snoc h.num hp]
    by_cases e : q = p
    · subst e; rw [if_pos rfl, if_pos rfl]; rfl
    · rw [if_neg (fun z => e (inj _ _ z)), if_neg e]
      exact h.at_ q
  · have z : valV kvs (key p) = none := by rw [h.at_, look_none hp]; rfl
    rw [putK_new _ z, List.length_append, List.length_append]
    have := h.len
    simp
    omega
theorem Hold.set {κ : Type} [DecidableEq κ] {key : α → κ} (inj : ∀ p q, key p = key q → p = q) {kvs : List (κ × V)} {b : List α} {num : List Int} (nd : b.Nodup) (h : Hold key kvs b num) {p : α} {j : Nat} {v : Int} (hp : b[j]? = some p) (hl : (putK kvs (key p) (.int v)).length = kvs.length) : Hold key (putK kvs (key p) (.int v)) b (num.set j v) := by
  refine ⟨fun q => ?_, by rw [hl]; exact h.len, by rw [List.length_set]; exact h.num⟩
  rw [valV_put, look_set nd hp h.num]
  by_cases e : q = p
  · subst e; rw [if_pos rfl, if_pos rfl]; rfl
  · rw [if_neg (fun z => e (inj _ _ z)), if_neg e]
    exact h.at_ q
end
theorem putK_same {κ : Type} [DecidableEq κ] {kvs : List (κ × V)} {k : κ} {v w : V} (h : valV kvs k = some w) : (putK kvs k v).length = kvs.length := by
  unfold putK
  have z : (kvs.any fun kv => decide (kv.1 = k)) = true := by
    unfold valV at h
    cases e : kvs.find? (fun kv => decide (kv.1 = k)) with
    | none => rw [e] at h; cases h
    | some kv => exact List.any_eq_true.mpr ⟨kv, List.mem_of_find?_eq_some e, List.find?_some (p := fun kv : κ × V => decide (kv.1 = k)) e⟩
  rw [if_pos z, List.length_map]
def kk (p : Int × Int) : List Key := [.inl p.1, .inl p.2]
theorem kk_inj (p q : Int × Int) (h : kk p = kk q) : p = q := by
  unfold kk at h
  injection h with h1 h2
  injection h2 with h2 _
  injection h1 with h1
  injection h2 with h2
  exact Prod.ext h1 h2
theorem inl_inj (p q : Int) (h : (Sum.inl p : Key) = Sum.inl q) : p = q := Sum.inl.inj h

end
end K26
set_option Elab.async false
set_option linter.all false
set_option maxRecDepth 100000
set_option maxHeartbeats 4000000
namespace K26
open PySem PySem.Spec PyProof.Rows L2 XL
section
variable {P : Program} {w : World} {K : PySem.W.Frag} {mg : Str → Option Value} {base : Heap}
/-! ### fields -/
theorem putF_ne {f g : Str} {v x : V} {r : List (Str × V)} (h : decide (g = f) = false := by decide +kernel) : putF f v ((g, x) :: r) = (g, x) :: putF f v r := by
  show (if g = f then _ else _) = _
  rw [if_neg (of_decide_eq_false h)]
theorem putF_eq {f : Str} {v x : V} {r : List (Str × V)} : putF f v ((f, x) :: r) = (f, v) :: r := by
  show (if f = f then _ else _) = _
  rw [if_pos rfl]
theorem putF_nil {f : Str} {v : V} : putF f v [] = [(f, v)] := rfl
theorem lk_ne {f g : Str} {x : V} {r : List (Str × V)} (h : (f == g) = false := by decide +kernel) : List.lookup f ((g, x) :: r) = List.lookup f r := by simp [List.lookup, h]
theorem lk_eq {f : Str} {x : V} {r : List (Str × V)} : List.lookup f ((f, x) :: r) = some x := by simp [List.lookup]
/-! ### Known -/
def kF (kv : V) (r p d : Addr) : List (Str × V) := [("key", kv), ("row", .ref r), ("known_by", .ref p), ("numbers", .ref d)]
theorem kF_key {kv : V} {r p d : Addr} : (kF kv r p d).lookup ("key" : Str) = some kv := by unfold kF; rw [lk_eq]
theorem kF_row {kv : V} {r p d : Addr} : (kF kv r p d).lookup ("row" : Str) = some (V.ref r) := by unfold kF; rw [lk_ne, lk_eq]
theorem kF_kb {kv : V} {r p d : Addr} : (kF kv r p d).lookup ("known_by" : Str) = some (V.ref p) := by unfold kF; rw [lk_ne, lk_ne, lk_eq]
theorem kF_num {kv : V} {r p d : Addr} : (kF kv r p d).lookup ("numbers" : Str) = some (V.ref d) := by unfold kF; rw [lk_ne, lk_ne, lk_ne, lk_eq]
structure KnOk (G : Hp) (Ck : Addr) (f : Fm) (n num : List Int) (kv : V) (r p : Addr) (kvs : List (List Key × V)) : Prop where
  key : KeyAt Ck G kv f
  row : TupF G r (n.map V.int)
  ok : RowOk n
  id : ∃ ws, TupF G p ws ∧ Paired (Pr G) ws (ids f n)
  hold : Hold kk kvs (ids f n) num
theorem KnOk.same {G G' : Hp} {Ck : Addr} {f : Fm} {n num : List Int} {kv : V} {r p : Addr} {kvs : List (List Key × V)} (e : Same G G') (h : KnOk G Ck f n num kv r p kvs) : KnOk G' Ck f n num kv r p kvs := by
  obtain ⟨ws, h1, h2⟩ := h.id
  exact ⟨h.key.same e, h.row.same e, h.ok, ⟨ws, h1.same e, prd_imp (fun _ _ => Pr.same e) h2⟩, h.hold⟩
def spKnInit (C Ck : Addr) : Sp := fun vs H Q _ => ∃ (G : Hp) (M : List (Addr × HO)) (x dx : Addr) (kv : V) (r : Addr) (f : Fm) (n : List Int), vs = [.ref x, kv, .ref r] ∧ Sep G ((x, .ins C dx []) :: M) H ∧ KeyAt Ck G kv f ∧ TupF G r (n.map V.int) ∧ RowOk n ∧
  ∀ (p d : Addr) (kvs : List (List Key × V)) (G' H' : Hp), Same G G' → KnOk G' Ck f n (List.replicate n.length 0) kv r p kvs → Sep G' ((x, .ins C dx (kF kv r p d)) :: (d, .dT kvs) :: M) H' → Q .non H'
theorem ok_Known_init (T : Top K mg w) (G_Key_idents : FnOk P w K mg base CX0 8 T.a_Key_idents T.d_Key_idents ["self", "row"] (spKIdents T.C_Key)) :
    FnOk P w K mg base CX0 9 T.a_Known_init T.d_Known_init ["self", "key", "row"] (spKnInit T.C_Known T.C_Key) := by
  refine T.F_Known_init.ok sc_Known_init (fun vs H Q E h => ?_) (fun cdv A outer s H vs Q E hr h => ?_)
  · obtain ⟨G, M, x, dx, kv, r, f, n, rfl, _⟩ := h
    rfl
  · obtain ⟨G, M, x, dx, kv, r, f, n, rfl, S, hk, hr', ro, q⟩ := h
    refine ⟨_, (pss_cons (ps_fld (xv 0) (xv 1) rfl)
      (pss_cons (ps_fld (xv 0) (xv 2) rfl)
      (pss_cons (ps_fld (xv 0) (pe_meth (xv 1) T.cl_Key T.me_Key_idents G_Key_idents (hr.mono (by omega)) T.b_Key_idents .nil pass0 (pa_cons (xv 2) pa_nil)) rfl)
      (pss_cons (ps_fld (xv 0) pe_dnewT rfl)
      (pss_one (ps_for PassesOwn.never rfl (pi_tupK K (pe_fldK K (xv 0))) (pg_name (i := 3) sc_Known_init.nd rfl (.inl rfl))
      (pss_one (ps_dput (hu_of hr) (pe_fldK K (xv 0)) (xv 3) pe_int rfl)))))))), ?_⟩
    refine ⟨x, T.C_Known, dx, [], rfl, S.hd, T.cl_Known, T.na_Known_key, by decide, ?_⟩
    have S1 := S.set (o' := .ins T.C_Known dx [("key", kv)])
    refine ⟨x, T.C_Known, dx, _, rfl, S1.hd, T.cl_Known, T.na_Known_row, by simp, ?_⟩
    rw [putF_ne, putF_nil]
    have S2 := S1.set (o' := .ins T.C_Known dx [("key", kv), ("row", .ref r)])
    have kk' := hk
    obtain ⟨kx, kdx, u, rfl, hkx, hu⟩ := hk
    refine ⟨kx, kdx, _, rfl, S2.st hkx, rfl, G, _, _, f, r, n, rfl, S2, kk', hr'.tu, ro, fun p ws G3 H3 s3 S3 hp pr => ?_⟩
    refine ⟨x, T.C_Known, dx, _, rfl, S3.hd, T.cl_Known, T.na_Known_known_by, by simp, ?_⟩
    rw [putF_ne, putF_ne, putF_nil]
    have S4 := S3.set (o' := .ins T.C_Known dx [("key", .ref kx), ("row", .ref r), ("known_by", .ref p)])
    intro d nd
    have S5 := (S4.new (o := .dT []) nd).sw
    refine ⟨x, T.C_Known, dx, _, rfl, S5.hd, T.cl_Known, T.na_Known_numbers, by simp, ?_⟩
    rw [putF_ne, putF_ne, putF_ne, putF_nil]
    have S6 := S5.set (o' := .ins T.C_Known dx (kF (.ref kx) r p d))
    have wl := prd_len pr
    have l5 := ro.len
    rw [ids_len] at wl
    refine ⟨x, T.C_Known, dx, _, _, rfl, S6.hd, T.cl_Known, T.na_Known_known_by, kF_kb, p, rfl, ⟨ws, (hp.same S6.1).tu.sq⟩, for_tup (xs := ws) (fun i σ H' => ∃ (y3 : Option V) (kvs : List (List Key × V)), σ = [some (.ref x), some (.ref kx), some (.ref r), y3] ∧ Sep G3 ((x, .ins T.C_Known dx (kF (.ref kx) r p d)) :: (d, .dT kvs) :: M) H' ∧ Hold kk kvs ((ids f n).take i) (List.replicate i 0))
      ⟨_, [], rfl, S6, Hold.nil⟩ (fun i σ H' _ h => ?_) (fun i y σ H' hy h => ?_) (fun σ H' h => ?_)⟩
    · obtain ⟨_, _, _, S', _⟩ := h
      exact (hp.same S'.1).tu.sq
    · obtain ⟨y3, kvs, rfl, S7, hh⟩ := h
      obtain ⟨c, hc, a, rfl, ha⟩ := prd_get pr hy
      have hl := hh.len
      rw [List.length_take, ids_len] at hl
      have S8 := S7.sw
      have nm : c ∉ (ids f n).take i := fun hm => by
        have nd := ids_nodup f n
        rw [(take_pre hc).1, List.nodup_append] at nd
        exact nd.2.2 c hm c (by simp) rfl
      refine ⟨x, T.C_Known, dx, _, _, rfl, S7.hd, T.cl_Known, T.na_Known_numbers, kF_num, d, _, rfl, DPut.t (k := kk c) S8.hd (S7.st ha) (smallL (by omega)), _, _, rfl, (S8.set).sw, ?_⟩
      rw [XL.take_snoc hc, List.replicate_succ']
      exact hh.snoc kk_inj nm
    · obtain ⟨y3, kvs, rfl, S7, hh⟩ := h
      rw [List.take_of_length_le (by rw [ids_len]; omega), wl] at hh
      exact q p d kvs _ _ s3 ⟨kk'.same s3, hr'.same s3, ro, ⟨ws, hp, pr⟩, hh⟩ S7
theorem int_first {n : List Int} (nd : n.Nodup) {j : Nat} {it : Int} (h : n[j]? = some it) (m : Nat) (z' : PyData) (hm : m < j) (hz : (n.map PyData.int)[m]? = some z') : PyData.eqv z' (.int it) = false := by
  rw [List.getElem?_map] at hz
  obtain ⟨z, hz', rfl⟩ := Option.map_eq_some_iff.mp hz
  show (z == it) = false
  rw [beq_eq_false_iff_ne]
  intro e
  subst e
  have := (nodup_int nd h).mp hz'
  omega
theorem int_at {n : List Int} {j : Nat} {it : Int} (h : n[j]? = some it) : (n.map PyData.int)[j]? = some (.int it) := by
  rw [List.getElem?_map, h]
  rfl
theorem in_row {n : List Int} {it : Int} {j : Nat} (h : n[j]? = some it) {A : Prop} (e : (if true = true then !inV (V.int it) (n.map V.int) else inV (V.int it) (n.map V.int)) = true) : A := by
  rw [if_pos rfl, inV_int, decide_eq_true (List.mem_of_getElem? h)] at e
  cases e

end
end K26
set_option Elab.async false
set_option linter.all false
set_option maxRecDepth 100000
set_option maxHeartbeats 4000000
namespace K26
open PySem PySem.Spec PyProof.Rows L2 XL
section
variable {P : Program} {w : World} {K : PySem.W.Frag} {mg : Str → Option Value} {base : Heap}
/-! ### Known.show -/
def shown {α : Type} [DecidableEq α] (b : List α) (num : List Int) (c : List α) : List Int := c.map fun p => (look b num p).getD 0
theorem shown_snoc {α : Type} [DecidableEq α] (b : List α) (num : List Int) (c : List α) (p : α) : shown b num (c ++ [p]) = shown b num c ++ [(look b num p).getD 0] := by simp [shown]
def spKnShow (K : PySem.W.Frag) (C Ck : Addr) : Sp := fun vs H Q _ => ∃ (G : Hp) (M : List (Addr × HO)) (x dx : Addr) (kv : V) (r p d r2 : Addr) (kvs : List (List Key × V)) (f : Fm) (n num n2 : List Int), vs = [.ref x, .ref r2] ∧ Sep G ((x, .ins C dx (kF kv r p d)) :: (d, .dT kvs) :: M) H ∧ KnOk G Ck f n num kv r p kvs ∧ TupF G r2 (n2.map V.int) ∧ RowOk n2 ∧
  ∀ (p' d' : Addr) (kvs' : List (List Key × V)) (G' H' : Hp), Same G G' → KnOk G' Ck f n2 (shown (ids f n) num (ids f n2)) kv r2 p' kvs' → Sep G' ((x, .ins C dx (kF kv r2 p' d')) :: (d', .dT kvs') :: M) H' → Q .non H'
theorem ok_Known_show (T : Top K mg w) (G_Key_idents : FnOk P w K mg base CX0 8 T.a_Key_idents T.d_Key_idents ["self", "row"] (spKIdents T.C_Key)) : FnOk P w K mg base CX0 9 T.a_Known_show T.d_Known_show ["self", "row"] (spKnShow K T.C_Known T.C_Key) := by
  refine T.F_Known_show.ok sc_Known_show (fun vs H Q E h => ?_) (fun cdv A outer s H vs Q E hr h => ?_)
  · obtain ⟨G, M, x, dx, kv, r, p, d, r2, kvs, f, n, num, n2, rfl, _⟩ := h
    rfl
  · obtain ⟨G, M, x, dx, kv, r, p, d, r2, kvs, f, n, num, n2, rfl, S, ko, h2, ro2, q⟩ := h
    refine ⟨_, (pss_cons (ps_set (i := 2) sc_Known_show.nd rfl (.inl rfl) (pe_meth (pe_fldK K (xv 0)) T.cl_Key T.me_Key_idents G_Key_idents (hr.mono (by omega)) T.b_Key_idents .nil pass0 (pa_cons (xv 1) pa_nil)))
      (pss_cons (ps_set (i := 3) sc_Known_show.nd rfl (.inl rfl) pe_dnewT)
      (pss_cons (ps_for PassesOwn.never rfl (pi_tupK K (xv 2)) (pg_name (i := 4) sc_Known_show.nd rfl (.inl rfl))
      (pss_one (ps_dput (hu_of hr) (xv 3) (xv 4) (pe_dget2 (hu_of hr) (pe_fldK K (xv 0)) (xv 4) pe_int ⟨by rfl, by rfl, by rfl, by rfl⟩) rfl)))
      (pss_cons (ps_fld (xv 0) (xv 1) rfl)
      (pss_cons (ps_fld (xv 0) (xv 2) rfl)
      (pss_one (ps_fld (xv 0) (xv 3) rfl))))))), ?_⟩
    have kk' := ko.key
    obtain ⟨kx, kdx, u, rfl, hkx, hu⟩ := ko.key
    refine ⟨x, T.C_Known, dx, _, _, rfl, S.hd, T.cl_Known, T.na_Known_key, kF_key, kx, kdx, _, rfl, S.st hkx, rfl, G, _, _, f, r2, n2, rfl, S, kk', h2.tu, ro2, fun p2 ws G3 H3 s3 S3 hp pr d2 nd2 => ?_⟩
    have wl := prd_len pr
    have l5 := ro2.len
    rw [ids_len] at wl
    have S4 := S3.new (o := .dT []) nd2
    refine ⟨p2, rfl, ⟨ws, (hp.same S4.1).tu.sq⟩, for_tup (xs := ws) (fun i σ H' => ∃ (y4 : Option V) (kvs2 : List (List Key × V)), σ = [some (.ref x), some (.ref r2), some (.ref p2), some (.ref d2), y4] ∧ Sep G3 ((d2, .dT kvs2) :: (x, .ins T.C_Known dx (kF (.ref kx) r p d)) :: (d, .dT kvs) :: M) H' ∧ Hold kk kvs2 ((ids f n2).take i) (shown (ids f n) num ((ids f n2).take i)))
      ⟨_, [], rfl, S4, Hold.nil⟩ (fun i σ H' _ h => ?_) (fun i y σ H' hy h => ?_) (fun σ H' h => ?_)⟩
    · obtain ⟨_, _, _, S', _⟩ := h
      exact (hp.same S'.1).tu.sq
    · obtain ⟨y4, kvs2, rfl, S7, hh⟩ := h
      obtain ⟨c, hc, a, rfl, ha⟩ := prd_get pr hy
      have hl := hh.len
      rw [List.length_take, ids_len] at hl
      have nm : c ∉ (ids f n2).take i := fun hm => by
        have nd := ids_nodup f n2
        rw [(take_pre hc).1, List.nodup_append] at nd
        exact nd.2.2 c hm c (by simp) rfl
      have hx : H' x = some (.ins T.C_Known dx (kF (.ref kx) r p d)) := S7.sw.hd
      have hd : H' d = some (.dT kvs) := S7.at (by simp)
      have hg : DGet H' d (.ref a) ((look (ids f n) num c).map V.int) := by
        rw [← ko.hold.at_ c]
        exact DGet.t hd (S7.st ha)
      refine ⟨x, T.C_Known, dx, _, _, rfl, hx, T.cl_Known, T.na_Known_numbers, kF_num, d, rfl, .inr ⟨kvs, .inl hd⟩, _, hg, ?_⟩
      have e : ((look (ids f n) num c).map V.int).getD (.int 0) = .int ((look (ids f n) num c).getD 0) := by cases look (ids f n) num c <;> rfl
      rw [e]
      refine ⟨d2, _, rfl, DPut.t (k := kk c) S7.hd (S7.st ha) (smallL (by omega)), _, _, rfl, S7.set, ?_⟩
      rw [XL.take_snoc hc, shown_snoc]
      exact hh.snoc kk_inj nm
    · obtain ⟨y4, kvs2, rfl, S7, hh⟩ := h
      rw [List.take_of_length_le (by rw [ids_len]; omega)] at hh
      have S8 := S7.sw
      refine ⟨x, T.C_Known, dx, _, rfl, S8.hd, T.cl_Known, T.na_Known_row, by simp [kF], ?_⟩
      have e1 : putF "row" (.ref r2) (kF (.ref kx) r p d) = kF (.ref kx) r2 p d := by unfold kF; rw [putF_ne, putF_eq]
      rw [e1]
      have S9 := S8.set (o' := .ins T.C_Known dx (kF (.ref kx) r2 p d))
      refine ⟨x, T.C_Known, dx, _, rfl, S9.hd, T.cl_Known, T.na_Known_known_by, by simp [kF], ?_⟩
      have e2 : putF "known_by" (.ref p2) (kF (.ref kx) r2 p d) = kF (.ref kx) r2 p2 d := by unfold kF; rw [putF_ne, putF_ne, putF_eq]
      rw [e2]
      have Sa := S9.set (o' := .ins T.C_Known dx (kF (.ref kx) r2 p2 d))
      refine ⟨x, T.C_Known, dx, _, rfl, Sa.hd, T.cl_Known, T.na_Known_numbers, by simp [kF], ?_⟩
      have e3 : putF "numbers" (.ref d2) (kF (.ref kx) r2 p2 d) = kF (.ref kx) r2 p2 d2 := by unfold kF; rw [putF_ne, putF_ne, putF_ne, putF_eq]
      rw [e3]
      have Sb := Sa.set (o' := .ins T.C_Known dx (kF (.ref kx) r2 p2 d2))
      have Sc := Sb.perm (M' := (x, .ins T.C_Known dx (kF (.ref kx) r2 p2 d2)) :: (d2, .dT kvs2) :: (d, .dT kvs) :: M) (List.Perm.refl _)
      have Sd := (Sc.perm (M' := (d, .dT kvs) :: (x, .ins T.C_Known dx (kF (.ref kx) r2 p2 d2)) :: (d2, .dT kvs2) :: M) ((List.Perm.cons _ (List.Perm.swap _ _ _)).trans (List.Perm.swap _ _ _))).drop
      exact q p2 d2 kvs2 _ _ s3 ⟨kk'.same s3, h2.same s3, ro2, ⟨ws, hp, pr⟩, hh⟩ Sd
/-! ### Things -/
def tF (r d : Addr) : List (Str × V) := [("row", .ref r), ("numbers", .ref d)]
theorem tF_row {r d : Addr} : (tF r d).lookup ("row" : Str) = some (V.ref r) := by unfold tF; rw [lk_eq]
theorem tF_num {r d : Addr} : (tF r d).lookup ("numbers" : Str) = some (V.ref d) := by unfold tF; rw [lk_ne, lk_eq]
abbrev ik : Int → Key := Sum.inl
structure ThOk (G : Hp) (n num : List Int) (r : Addr) (kvs : List (Key × V)) : Prop where
  row : TupF G r (n.map V.int)
  ok : RowOk n
  hold : Hold ik kvs n num
theorem ThOk.same {G G' : Hp} {n num : List Int} {r : Addr} {kvs : List (Key × V)} (e : Same G G') (h : ThOk G n num r kvs) : ThOk G' n num r kvs := ⟨h.row.same e, h.ok, h.hold⟩
theorem not_take {n : List Int} (nd : n.Nodup) {i : Nat} {c : Int} (hc : n[i]? = some c) : c ∉ n.take i := fun hm => by
  rw [(take_pre hc).1, List.nodup_append] at nd
  exact nd.2.2 c hm c (by simp) rfl
def spThInit (C : Addr) : Sp := fun vs H Q _ => ∃ (G : Hp) (M : List (Addr × HO)) (x dx r : Addr) (n : List Int), vs = [.ref x, .ref r] ∧ Sep G ((x, .ins C dx []) :: M) H ∧ TupF G r (n.map V.int) ∧ RowOk n ∧
  ∀ (d : Addr) (kvs : List (Key × V)) (G' H' : Hp), Same G G' → ThOk G' n (List.replicate n.length 0) r kvs → Sep G' ((x, .ins C dx (tF r d)) :: (d, .dK kvs) :: M) H' → Q .non H'
theorem ok_Things_init (T : Top K mg w) (G_check_row : FnOk P w K mg base CX0 7 T.a_check_row T.d_check_row ["row"] (spRow K)) :
    FnOk P w K mg base CX0 8 T.a_Things_init T.d_Things_init ["self", "row"] (spThInit T.C_Things) := by
  refine T.F_Things_init.ok sc_Things_init (fun vs H Q E h => ?_) (fun cdv A outer s H vs Q E hr h => ?_)
  · obtain ⟨G, M, x, dx, r, n, rfl, _⟩ := h
    rfl
  · obtain ⟨G, M, x, dx, r, n, rfl, S, hr', ro, q⟩ := h
    refine ⟨_, (pss_cons (ps_expr (pe_call G_check_row (hr.mono (by omega)) (by rfl) T.g_check_row T.F_check_row.kp T.b_check_row .nil pass0 (pa_cons (xv 1) pa_nil)))
      (pss_cons (ps_fld (xv 0) (xv 1) rfl)
      (pss_cons (ps_fld (xv 0) pe_dnewK rfl)
      (pss_one (ps_for PassesOwn.never rfl (pi_tupK K (xv 1)) (pg_name (i := 2) sc_Things_init.nd rfl (.inl rfl))
      (pss_one (ps_dput (hu_of hr) (pe_fldK K (xv 0)) (xv 2) pe_int rfl))))))), ?_⟩
    refine ⟨G, _, r, n, rfl, S, hr'.tu, ro, fun G1 H1 s1 S1 => ?_⟩
    refine ⟨x, T.C_Things, dx, [], rfl, S1.hd, T.cl_Things, T.na_Things_row, by decide, fun d nd => ?_⟩
    have S2 := S1.set (o' := .ins T.C_Things dx [("row", .ref r)])
    have S5 := (S2.new (o := .dK []) nd).sw
    refine ⟨x, T.C_Things, dx, _, rfl, S5.hd, T.cl_Things, T.na_Things_numbers, by simp, ?_⟩
    rw [putF_ne, putF_nil]
    have S6 := S5.set (o' := .ins T.C_Things dx (tF r d))
    have l5 := ro.len
    have hr1 := hr'.same s1
    refine ⟨r, rfl, ⟨_, (hr1.same S6.1).tu.sq⟩, for_tup (xs := n.map V.int) (fun i σ H' => ∃ (y2 : Option V) (kvs : List (Key × V)), σ = [some (.ref x), some (.ref r), y2] ∧ Sep G1 ((x, .ins T.C_Things dx (tF r d)) :: (d, .dK kvs) :: M) H' ∧ Hold ik kvs (n.take i) (List.replicate i 0))
      ⟨_, [], rfl, S6, Hold.nil⟩ (fun i σ H' _ h => ?_) (fun i y σ H' hy h => ?_) (fun σ H' h => ?_)⟩
    · obtain ⟨_, _, _, S', _⟩ := h
      exact (hr1.same S'.1).tu.sq
    · obtain ⟨y2, kvs, rfl, S7, hh⟩ := h
      rw [List.getElem?_map] at hy
      obtain ⟨c, hc, rfl⟩ := Option.map_eq_some_iff.mp hy
      have hl := hh.len
      rw [List.length_take] at hl
      have S8 := S7.sw
      refine ⟨x, T.C_Things, dx, _, _, rfl, S7.hd, T.cl_Things, T.na_Things_numbers, tF_num, d, _, rfl, DPut.k (k := ik c) S8.hd (smallL (by omega)), _, _, rfl, (S8.set).sw, ?_⟩
      rw [XL.take_snoc hc, List.replicate_succ']
      exact hh.snoc inl_inj (not_take ro.nd hc)
    · obtain ⟨y2, kvs, rfl, S7, hh⟩ := h
      rw [List.length_map, List.take_length] at hh
      exact q d kvs _ _ s1 ⟨hr1, ro, hh⟩ S7
def spThShow (K : PySem.W.Frag) (C : Addr) : Sp := fun vs H Q _ => ∃ (G : Hp) (M : List (Addr × HO)) (x dx r d r2 : Addr) (kvs : List (Key × V)) (n num n2 : List Int), vs = [.ref x, .ref r2] ∧ Sep G ((x, .ins C dx (tF r d)) :: (d, .dK kvs) :: M) H ∧ ThOk G n num r kvs ∧ TupF G r2 (n2.map V.int) ∧ RowOk n2 ∧
  ∀ (d' : Addr) (kvs' : List (Key × V)) (G' H' : Hp), Same G G' → ThOk G' n2 (shown n num n2) r2 kvs' → Sep G' ((x, .ins C dx (tF r2 d')) :: (d', .dK kvs') :: M) H' → Q .non H'
theorem ok_Things_show (T : Top K mg w) (G_check_row : FnOk P w K mg base CX0 7 T.a_check_row T.d_check_row ["row"] (spRow K)) : FnOk P w K mg base CX0 8 T.a_Things_show T.d_Things_show ["self", "row"] (spThShow K T.C_Things) := by
  refine T.F_Things_show.ok sc_Things_show (fun vs H Q E h => ?_) (fun cdv A outer s H vs Q E hr h => ?_)
  · obtain ⟨G, M, x, dx, r, d, r2, kvs, n, num, n2, rfl, _⟩ := h
    rfl
  · obtain ⟨G, M, x, dx, r, d, r2, kvs, n, num, n2, rfl, S, ko, h2, ro2, q⟩ := h
    refine ⟨_, (pss_cons (ps_expr (pe_call G_check_row (hr.mono (by omega)) (by rfl) T.g_check_row T.F_check_row.kp T.b_check_row .nil pass0 (pa_cons (xv 1) pa_nil)))
      (pss_cons (ps_set (i := 2) sc_Things_show.nd rfl (.inl rfl) pe_dnewK)
      (pss_cons (ps_for PassesOwn.never rfl (pi_tupK K (xv 1)) (pg_name (i := 3) sc_Things_show.nd rfl (.inl rfl))
      (pss_one (ps_dput (hu_of hr) (xv 2) (xv 3) (pe_dget2 (hu_of hr) (pe_fldK K (xv 0)) (xv 3) pe_int ⟨by rfl, by rfl, by rfl, by rfl⟩) rfl)))
      (pss_cons (ps_fld (xv 0) (xv 1) rfl)
      (pss_one (ps_fld (xv 0) (xv 2) rfl)))))), ?_⟩
    refine ⟨G, _, r2, n2, rfl, S, h2.tu, ro2, fun G3 H3 s3 S3 d2 nd2 => ?_⟩
    have l5 := ro2.len
    have S4 := S3.new (o := .dK []) nd2
    have h3 := h2.same s3
    refine ⟨r2, rfl, ⟨_, (h3.same S4.1).tu.sq⟩, for_tup (xs := n2.map V.int) (fun i σ H' => ∃ (y3 : Option V) (kvs2 : List (Key × V)), σ = [some (.ref x), some (.ref r2), some (.ref d2), y3] ∧ Sep G3 ((d2, .dK kvs2) :: (x, .ins T.C_Things dx (tF r d)) :: (d, .dK kvs) :: M) H' ∧ Hold ik kvs2 (n2.take i) (shown n num (n2.take i)))
      ⟨_, [], rfl, S4, Hold.nil⟩ (fun i σ H' _ h => ?_) (fun i y σ H' hy h => ?_) (fun σ H' h => ?_)⟩
    · obtain ⟨_, _, _, S', _⟩ := h
      exact (h3.same S'.1).tu.sq
    · obtain ⟨y3, kvs2, rfl, S7, hh⟩ := h
      rw [List.getElem?_map] at hy
      obtain ⟨c, hc, rfl⟩ := Option.map_eq_some_iff.mp hy
      have hl := hh.len
      rw [List.length_take] at hl
      have hx : H' x = some (.ins T.C_Things dx (tF r d)) := S7.sw.hd
      have hd : H' d = some (.dK kvs) := S7.at (by simp)
      have hg : DGet H' d (.int c) ((look n num c).map V.int) := by
        rw [← ko.hold.at_ c]
        exact DGet.k (k := ik c) hd
      refine ⟨x, T.C_Things, dx, _, _, rfl, hx, T.cl_Things, T.na_Things_numbers, tF_num, d, rfl, .inl ⟨kvs, .inl hd⟩, _, hg, ?_⟩
      have e : ((look n num c).map V.int).getD (.int 0) = .int ((look n num c).getD 0) := by cases look n num c <;> rfl
      rw [e]
      refine ⟨d2, _, rfl, DPut.k (k := ik c) S7.hd (smallL (by omega)), _, _, rfl, S7.set, ?_⟩
      rw [XL.take_snoc hc, shown_snoc]
      exact hh.snoc inl_inj (not_take ro2.nd hc)
    · obtain ⟨y3, kvs2, rfl, S7, hh⟩ := h
      rw [List.length_map, List.take_length] at hh
      have S8 := S7.sw
      refine ⟨x, T.C_Things, dx, _, rfl, S8.hd, T.cl_Things, T.na_Things_row, by simp [tF], ?_⟩
      have e1 : putF "row" (.ref r2) (tF r d) = tF r2 d := by unfold tF; rw [putF_eq]
      rw [e1]
      have S9 := S8.set (o' := .ins T.C_Things dx (tF r2 d))
      refine ⟨x, T.C_Things, dx, _, rfl, S9.hd, T.cl_Things, T.na_Things_numbers, by simp [tF], ?_⟩
      have e3 : putF "numbers" (.ref d2) (tF r2 d) = tF r2 d2 := by unfold tF; rw [putF_ne, putF_eq]
      rw [e3]
      have Sb := S9.set (o' := .ins T.C_Things dx (tF r2 d2))
      have Sd := (Sb.perm (M' := (d, .dK kvs) :: (x, .ins T.C_Things dx (tF r2 d2)) :: (d2, .dK kvs2) :: M) ((List.Perm.cons _ (List.Perm.swap _ _ _)).trans (List.Perm.swap _ _ _))).drop
      exact q d2 kvs2 _ _ s3 ⟨h3, ro2, hh⟩ Sd

end
end K26
set_option Elab.async false
set_option linter.all false
set_option maxRecDepth 100000
set_option maxHeartbeats 4000000
namespace K26
open PySem PySem.Spec PyProof.Rows L2 XL
section
variable {P : Program} {w : World} {K : PySem.W.Frag} {mg : Str → Option Value} {base : Heap}
theorem ints_depth : ∀ ns : List Int, PyData.depthAll (ns.map PyData.int) = 0
  | [] => by simp [PyData.depthAll]
  | n :: r => by simp [PyData.depthAll, PyData.depth, ints_depth r]
theorem ints_shaped (ns : List Int) : SeqAt.shaped (.list (ns.map PyData.int)) = true := by
  unfold SeqAt.shaped
  have e : PyData.canLay0 (.list (ns.map PyData.int)) = true := by simp [PyData.canLay0, ints_can]
  have e2 : PyData.depth (.list (ns.map PyData.int)) = 1 := by simp [PyData.depth, ints_depth]
  rw [e, e2]
  rfl

/-! ### [ ] and [ ] = that may refuse -/
def ErrI (C : Addr) (it : Int) (H : Hp) (E : XK) : Prop := ∀ dd, H dd = none → E (.ref C) (some dd) (upd H dd (.xd [("item", .int it)]))
def spKnGetX (K : PySem.W.Frag) (C Ck Ce : Addr) : Sp := fun vs H Q E => ∃ (G : Hp) (M : List (Addr × HO)) (x dx : Addr) (kv : V) (r p d : Addr) (kvs : List (List Key × V)) (f : Fm) (n num : List Int) (it : Int), vs = [.ref x, .int it] ∧ Sep G M H ∧ H x = some (.ins C dx (kF kv r p d)) ∧ H d = some (.dT kvs) ∧ KnOk G Ck f n num kv r p kvs ∧ it.natAbs.log2 < 1920 ∧
  (∀ j : Nat, n[j]? = some it → Q (.int (num.getD j 0)) H) ∧ (it ∉ n → ErrI Ce it H E)
theorem in_not {n : List Int} {it : Int} (e : (if true = true then !inV (V.int it) (n.map V.int) else inV (V.int it) (n.map V.int)) = true) : it ∉ n := by
  rw [if_pos rfl, inV_int] at e
  simpa using e
theorem in_yes {n : List Int} {it : Int} (e : (if true = true then !inV (V.int it) (n.map V.int) else inV (V.int it) (n.map V.int)) = false) : ∃ j : Nat, n[j]? = some it := by
  rw [if_pos rfl, inV_int] at e
  exact List.getElem?_of_mem (by simpa using e)
theorem ok_Known_getitem (T : Top K mg w) (pf : PySem.XExc.PF P T.x_file) {k : Nat} : FnOk P w K mg base (L2.CX P w) (k + 2) T.a_Known_getitem T.d_Known_getitem ["self", "item"] (spKnGetX K T.C_Known T.C_Key T.C_NoItem) := by
  refine T.F_Known_getitem.okX sc_Known_getitem (fun vs H Q E h => ?_) (fun cdv A outer s H vs Q E hr h => ?_)
  · obtain ⟨G, M, x, dx, kv, r, p, d, kvs, f, n, num, it, rfl, _⟩ := h
    rfl
  · obtain ⟨G, M, x, dx, kv, r, p, d, kvs, f, n, num, it, rfl, S, hx, hd, ko, ib, q, qe⟩ := h
    refine ⟨_, (pss_cons (xs_if (PW.pt (xw_or (xt_truK K (pe_callB (call_isK K) (by rfl) T.m_isinstance (by decide +kernel) (pa_cons (xv 1) (pa_cons (pe_bltn (v := .ty "bool") (by rfl) T.m_bool (by decide +kernel) rfl) pa_nil)))) (pw_or1 (xt_cmp (notin_seqK K) (xv 1) (pe_fldK K (xv 0)) (by rfl)))))
      (pss_one (ps_raiseX (k := 0) rfl (T.x_NoItem P pf) (hr.mono (by omega)) (takes_of rfl rfl rfl rfl) (pa_cons (xv 1) pa_nil)))
      pss_nil)
      (pss_one (ps_ret (pe_dget (hu_of hr) (pe_fldK K (xv 0)) (pe_ix (ix_k K) (pe_fldK K (xv 0)) (pe_tm PySem.F.slot_tuple_index PySem.F.type_tuple_index (mt_tindexK K (u65 hr)) (pe_fldK K (xv 0)) (pa_cons (xv 1) pa_nil)) (fun _ _ => rfl)) (fun _ _ => rfl))))), ?_⟩
    have FR := ko.row.same S.1
    refine ⟨_, _, _, _, false, rfl, .ty _, .base (.int _), kit_ty (by decide +kernel), ff, fun _ => ⟨x, T.C_Known, dx, _, _, rfl, hx, T.cl_Known, T.na_Known_row, kF_row, r, _, rfl, .inr FR.tu.sq, rfl, ints_flat _, fun e => ?_, fun e => ?_⟩⟩
    · exact ⟨_, rfl, .inr ⟨_, rfl, ib⟩, fun dd ndd => qe (in_not e) dd ndd⟩
    obtain ⟨j, hj⟩ := in_yes e
    obtain ⟨ws, hp, pr⟩ := ko.id
    have FP := hp.same S.1
    have wl := prd_len pr
    rw [ids_len] at wl
    have jl := (List.getElem?_eq_some_iff.mp hj).1
    have hw := List.getElem?_eq_getElem (show j < ws.length by omega)
    obtain ⟨c, hc, a, ea, ha⟩ := prd_get pr hw
    rw [ea] at hw
    have nl := ko.hold.num
    rw [ids_len] at nl
    have hnum : num[j]? = some (num.getD j 0) := getD_some (by omega)
    have hv : valV kvs (kk c) = some (.int (num.getD j 0)) := by rw [ko.hold.at_, look_at (ids_nodup f n) hc hnum]; rfl
    have hg : DGet H d (.ref a) (some (.int (num.getD j 0))) := by
      rw [← hv]
      exact DGet.t hd (S.st ha)
    refine ⟨x, T.C_Known, dx, _, _, rfl, hx, T.cl_Known, T.na_Known_numbers, kF_num, x, T.C_Known, dx, _, _, rfl, hx, T.cl_Known, T.na_Known_known_by, kF_kb, x, T.C_Known, dx, _, _, rfl, hx, T.cl_Known, T.na_Known_row, kF_row, ⟨r, _, rfl, FR⟩, ?_⟩
    exact ⟨r, _, .int it, n.map PyData.int, j, .int it, rfl, rfl, .tup FR.tu.sq (ints_dp _), .int _, ints_can _, int_shaped _, int_at hj, SeqAt.eqv_refl _ rfl, int_first ko.ok.nd hj, _, _, .inr FP.tu.sq, atI_nat hw, d, _, rfl, hg, q j hj⟩
def spKnSetX (K : PySem.W.Frag) (C Ck Ce : Addr) : Sp := fun vs H Q E => ∃ (G : Hp) (M : List (Addr × HO)) (x dx : Addr) (kv : V) (r p d : Addr) (kvs : List (List Key × V)) (f : Fm) (n num : List Int) (it v : Int), vs = [.ref x, .int it, .int v] ∧ Sep G ((x, .ins C dx (kF kv r p d)) :: (d, .dT kvs) :: M) H ∧ KnOk G Ck f n num kv r p kvs ∧ it.natAbs.log2 < 1920 ∧
  (∀ (j : Nat) (kvs' : List (List Key × V)) (H' : Hp), n[j]? = some it → KnOk G Ck f n (num.set j v) kv r p kvs' → Sep G ((x, .ins C dx (kF kv r p d)) :: (d, .dT kvs') :: M) H' → Q .non H') ∧ (it ∉ n → ErrI Ce it H E)
theorem ok_Known_setitem (T : Top K mg w) (pf : PySem.XExc.PF P T.x_file) {k : Nat} : FnOk P w K mg base (L2.CX P w) (k + 2) T.a_Known_setitem T.d_Known_setitem ["self", "item", "number"] (spKnSetX K T.C_Known T.C_Key T.C_NoItem) := by
  refine T.F_Known_setitem.okX sc_Known_setitem (fun vs H Q E h => ?_) (fun cdv A outer s H vs Q E hr h => ?_)
  · obtain ⟨G, M, x, dx, kv, r, p, d, kvs, f, n, num, it, v, rfl, _⟩ := h
    rfl
  · obtain ⟨G, M, x, dx, kv, r, p, d, kvs, f, n, num, it, v, rfl, S, ko, ib, q, qe⟩ := h
    refine ⟨_, (pss_cons (xs_if (PW.pt (xw_or (xt_truK K (pe_callB (call_isK K) (by rfl) T.m_isinstance (by decide +kernel) (pa_cons (xv 1) (pa_cons (pe_bltn (v := .ty "bool") (by rfl) T.m_bool (by decide +kernel) rfl) pa_nil)))) (pw_or1 (xt_cmp (notin_seqK K) (xv 1) (pe_fldK K (xv 0)) (by rfl)))))
      (pss_one (ps_raiseX (k := 0) rfl (T.x_NoItem P pf) (hr.mono (by omega)) (takes_of rfl rfl rfl rfl) (pa_cons (xv 1) pa_nil)))
      pss_nil)
      (pss_one (ps_dput (hu_of hr) (pe_fldK K (xv 0)) (pe_ix (ix_k K) (pe_fldK K (xv 0)) (pe_tm PySem.F.slot_tuple_index PySem.F.type_tuple_index (mt_tindexK K (u65 hr)) (pe_fldK K (xv 0)) (pa_cons (xv 1) pa_nil)) (fun _ _ => rfl)) (xv 2) rfl))), ?_⟩
    have hx := S.hd
    have FR := ko.row.same S.1
    refine ⟨_, _, _, _, false, rfl, .ty _, .base (.int _), kit_ty (by decide +kernel), ff, fun _ => ⟨x, T.C_Known, dx, _, _, rfl, hx, T.cl_Known, T.na_Known_row, kF_row, r, _, rfl, .inr FR.tu.sq, rfl, ints_flat _, fun e => ?_, fun e => ?_⟩⟩
    · exact ⟨_, rfl, .inr ⟨_, rfl, ib⟩, fun dd ndd => qe (in_not e) dd ndd⟩
    obtain ⟨j, hj⟩ := in_yes e
    obtain ⟨ws, hp, pr⟩ := ko.id
    have FP := hp.same S.1
    have wl := prd_len pr
    rw [ids_len] at wl
    have jl := (List.getElem?_eq_some_iff.mp hj).1
    have hw := List.getElem?_eq_getElem (show j < ws.length by omega)
    obtain ⟨c, hc, a, ea, ha⟩ := prd_get pr hw
    rw [ea] at hw
    have nl := ko.hold.num
    rw [ids_len] at nl
    have hnum : num[j]? = some (num.getD j 0) := getD_some (by omega)
    have hv : valV kvs (kk c) = some (.int (num.getD j 0)) := by rw [ko.hold.at_, look_at (ids_nodup f n) hc hnum]; rfl
    have kl := ko.hold.len
    have l5 := ko.ok.len
    rw [ids_len] at kl
    refine ⟨x, T.C_Known, dx, _, _, rfl, hx, T.cl_Known, T.na_Known_numbers, kF_num, x, T.C_Known, dx, _, _, rfl, hx, T.cl_Known, T.na_Known_known_by, kF_kb, x, T.C_Known, dx, _, _, rfl, hx, T.cl_Known, T.na_Known_row, kF_row, ⟨r, _, rfl, FR⟩, ?_⟩
    refine ⟨r, _, .int it, n.map PyData.int, j, .int it, rfl, rfl, .tup FR.tu.sq (ints_dp _), .int _, ints_can _, int_shaped _, int_at hj, SeqAt.eqv_refl _ rfl, int_first ko.ok.nd hj, _, _, .inr FP.tu.sq, atI_nat hw, d, _, rfl, DPut.t (k := kk c) S.sw.hd (S.st ha) (smallL (by omega)), ?_⟩
    exact q j _ _ hj ⟨ko.key, ko.row, ko.ok, ko.id, ko.hold.set kk_inj (ids_nodup f n) hc (putK_same hv)⟩ (S.sw.set).sw
def spThGetX (C Ce : Addr) : Sp := fun vs H Q E => ∃ (G : Hp) (M : List (Addr × HO)) (x dx r d : Addr) (kvs : List (Key × V)) (n num : List Int) (it : Int), vs = [.ref x, .int it] ∧ Sep G M H ∧ H x = some (.ins C dx (tF r d)) ∧ H d = some (.dK kvs) ∧ ThOk G n num r kvs ∧ it.natAbs.log2 < 1920 ∧
  (∀ j : Nat, n[j]? = some it → Q (.int (num.getD j 0)) H) ∧ (it ∉ n → ErrI Ce it H E)
theorem ok_Things_getitem (T : Top K mg w) (pf : PySem.XExc.PF P T.x_file) {k : Nat} : FnOk P w K mg base (L2.CX P w) (k + 2) T.a_Things_getitem T.d_Things_getitem ["self", "item"] (spThGetX T.C_Things T.C_NoItem) := by
  refine T.F_Things_getitem.okX sc_Things_getitem (fun vs H Q E h => ?_) (fun cdv A outer s H vs Q E hr h => ?_)
  · obtain ⟨G, M, x, dx, r, d, kvs, n, num, it, rfl, _⟩ := h
    rfl
  · obtain ⟨G, M, x, dx, r, d, kvs, n, num, it, rfl, S, hx, hd, ko, ib, q, qe⟩ := h
    refine ⟨_, (pss_cons (xs_if (PW.pt (xw_or (xt_truK K (pe_callB (call_isK K) (by rfl) T.m_isinstance (by decide +kernel) (pa_cons (xv 1) (pa_cons (pe_bltn (v := .ty "bool") (by rfl) T.m_bool (by decide +kernel) rfl) pa_nil)))) (pw_or1 (xt_cmp (notin_seqK K) (xv 1) (pe_fldK K (xv 0)) (by rfl)))))
      (pss_one (ps_raiseX (k := 0) rfl (T.x_NoItem P pf) (hr.mono (by omega)) (takes_of rfl rfl rfl rfl) (pa_cons (xv 1) pa_nil)))
      pss_nil)
      (pss_one (ps_ret (pe_dget (hu_of hr) (pe_fldK K (xv 0)) (xv 1) (fun _ _ => rfl))))), ?_⟩
    have FR := ko.row.same S.1
    refine ⟨_, _, _, _, false, rfl, .ty _, .base (.int _), kit_ty (by decide +kernel), ff, fun _ => ⟨x, T.C_Things, dx, _, _, rfl, hx, T.cl_Things, T.na_Things_row, tF_row, r, _, rfl, .inr FR.tu.sq, rfl, ints_flat _, fun e => ?_, fun e => ?_⟩⟩
    · exact ⟨_, rfl, .inr ⟨_, rfl, ib⟩, fun dd ndd => qe (in_not e) dd ndd⟩
    obtain ⟨j, hj⟩ := in_yes e
    have jl := (List.getElem?_eq_some_iff.mp hj).1
    have nl := ko.hold.num
    have hnum : num[j]? = some (num.getD j 0) := getD_some (by omega)
    have hv : valV kvs (ik it) = some (.int (num.getD j 0)) := by rw [ko.hold.at_, look_at ko.ok.nd hj hnum]; rfl
    have hg : DGet H d (.int it) (some (.int (num.getD j 0))) := by
      rw [← hv]
      exact DGet.k (k := ik it) hd
    exact ⟨x, T.C_Things, dx, _, _, rfl, hx, T.cl_Things, T.na_Things_numbers, tF_num, d, _, rfl, hg, q j hj⟩
def spThSetX (C Ce : Addr) : Sp := fun vs H Q E => ∃ (G : Hp) (M : List (Addr × HO)) (x dx r d : Addr) (kvs : List (Key × V)) (n num : List Int) (it v : Int), vs = [.ref x, .int it, .int v] ∧ Sep G ((x, .ins C dx (tF r d)) :: (d, .dK kvs) :: M) H ∧ ThOk G n num r kvs ∧ it.natAbs.log2 < 1920 ∧
  (∀ (j : Nat) (kvs' : List (Key × V)) (H' : Hp), n[j]? = some it → ThOk G n (num.set j v) r kvs' → Sep G ((x, .ins C dx (tF r d)) :: (d, .dK kvs') :: M) H' → Q .non H') ∧ (it ∉ n → ErrI Ce it H E)
theorem ok_Things_setitem (T : Top K mg w) (pf : PySem.XExc.PF P T.x_file) {k : Nat} : FnOk P w K mg base (L2.CX P w) (k + 2) T.a_Things_setitem T.d_Things_setitem ["self", "item", "number"] (spThSetX T.C_Things T.C_NoItem) := by
  refine T.F_Things_setitem.okX sc_Things_setitem (fun vs H Q E h => ?_) (fun cdv A outer s H vs Q E hr h => ?_)
  · obtain ⟨G, M, x, dx, r, d, kvs, n, num, it, v, rfl, _⟩ := h
    rfl
  · obtain ⟨G, M, x, dx, r, d, kvs, n, num, it, v, rfl, S, ko, ib, q, qe⟩ := h
    refine ⟨_, (pss_cons (xs_if (PW.pt (xw_or (xt_truK K (pe_callB (call_isK K) (by rfl) T.m_isinstance (by decide +kernel) (pa_cons (xv 1) (pa_cons (pe_bltn (v := .ty "bool") (by rfl) T.m_bool (by decide +kernel) rfl) pa_nil)))) (pw_or1 (xt_cmp (notin_seqK K) (xv 1) (pe_fldK K (xv 0)) (by rfl)))))
      (pss_one (ps_raiseX (k := 0) rfl (T.x_NoItem P pf) (hr.mono (by omega)) (takes_of rfl rfl rfl rfl) (pa_cons (xv 1) pa_nil)))
      pss_nil)
      (pss_one (ps_dput (hu_of hr) (pe_fldK K (xv 0)) (xv 1) (xv 2) rfl))), ?_⟩
    have FR := ko.row.same S.1
    refine ⟨_, _, _, _, false, rfl, .ty _, .base (.int _), kit_ty (by decide +kernel), ff, fun _ => ⟨x, T.C_Things, dx, _, _, rfl, S.hd, T.cl_Things, T.na_Things_row, tF_row, r, _, rfl, .inr FR.tu.sq, rfl, ints_flat _, fun e => ?_, fun e => ?_⟩⟩
    · exact ⟨_, rfl, .inr ⟨_, rfl, ib⟩, fun dd ndd => qe (in_not e) dd ndd⟩
    obtain ⟨j, hj⟩ := in_yes e
    have jl := (List.getElem?_eq_some_iff.mp hj).1
    have nl := ko.hold.num
    have hnum : num[j]? = some (num.getD j 0) := getD_some (by omega)
    have hv : valV kvs (ik it) = some (.int (num.getD j 0)) := by rw [ko.hold.at_, look_at ko.ok.nd hj hnum]; rfl
    have kl := ko.hold.len
    have l5 := ko.ok.len
    refine ⟨x, T.C_Things, dx, _, _, rfl, S.hd, T.cl_Things, T.na_Things_numbers, tF_num, d, _, rfl, DPut.k (k := ik it) S.sw.hd (smallL (by omega)), ?_⟩
    exact q j _ _ hj ⟨ko.row, ko.ok, ko.hold.set inl_inj ko.ok.nd hj (putK_same hv)⟩ (S.sw.set).sw
/-! ### iter(self.row) -/
def spKnIter (K : PySem.W.Frag) (C : Addr) : Sp := fun vs H Q _ => ∃ (x dx : Addr) (kv : V) (r p d : Addr) (zs : List V), vs = [.ref x] ∧ H x = some (.ins C dx (kF kv r p d)) ∧ SqT K H r zs ∧ ∀ it, H it = none → Q (.ref it) (upd H it (ItT r it 0))
theorem ok_Known_iter (T : Top K mg w) {k : Nat} : FnOk P w K mg base CX0 (k + 1) T.a_Known_iter T.d_Known_iter ["self"] (spKnIter K T.C_Known) := by
  refine T.F_Known_iter.ok sc_Known_iter (fun vs H Q E h => ?_) (fun cdv A outer s H vs Q E hr h => ?_)
  · obtain ⟨x, dx, kv, r, p, d, zs, rfl, _⟩ := h
    rfl
  · obtain ⟨x, dx, kv, r, p, d, zs, rfl, hx, hr', q⟩ := h
    refine ⟨_, (pss_one (ps_ret (pe_callB (call_iterTK K) (by rfl) T.m_iter (by decide +kernel) (pa_cons (pe_fldK K (xv 0)) pa_nil)))), ?_⟩
    exact ⟨x, T.C_Known, dx, _, _, rfl, hx, T.cl_Known, T.na_Known_row, kF_row, r, zs, rfl, hr', q⟩
def spThIter (K : PySem.W.Frag) (C : Addr) : Sp := fun vs H Q _ => ∃ (x dx : Addr) (r d : Addr) (zs : List V), vs = [.ref x] ∧ H x = some (.ins C dx (tF r d)) ∧ SqT K H r zs ∧ ∀ it, H it = none → Q (.ref it) (upd H it (ItT r it 0))
theorem ok_Things_iter (T : Top K mg w) {k : Nat} : FnOk P w K mg base CX0 (k + 1) T.a_Things_iter T.d_Things_iter ["self"] (spThIter K T.C_Things) := by
  refine T.F_Things_iter.ok sc_Things_iter (fun vs H Q E h => ?_) (fun cdv A outer s H vs Q E hr h => ?_)
  · obtain ⟨x, dx, r, d, zs, rfl, _⟩ := h
    rfl
  · obtain ⟨x, dx, r, d, zs, rfl, hx, hr', q⟩ := h
    refine ⟨_, (pss_one (ps_ret (pe_callB (call_iterTK K) (by rfl) T.m_iter (by decide +kernel) (pa_cons (pe_fldK K (xv 0)) pa_nil)))), ?_⟩
    exact ⟨x, T.C_Things, dx, _, _, rfl, hx, T.cl_Things, T.na_Things_row, tF_row, r, zs, rfl, hr', q⟩

end
end K26
set_option Elab.async false
set_option linter.all false
set_option maxRecDepth 100000
set_option maxHeartbeats 4000000
namespace K26
open PySem PySem.Spec PyProof.Rows L2 XL
section
variable {P : Program} {w : World} {K : PySem.W.Frag} {mg : Str → Option Value} {base : Heap}
def FK (G : Hp) (v : V) (f : Fm) : Prop := FmAt G v f ∧ f.ok ∧ f.dep ≤ 5
theorem FK.same {G G' : Hp} (e : Same G G') {v : V} {f : Fm} (h : FK G v f) : FK G' v f := ⟨h.1.same' e, h.2⟩
def RowF (G : Hp) (v : V) : Prop := ∃ (r : Addr) (ns : List Int), v = .ref r ∧ TupF G r (ns.map V.int) ∧ RowOk ns
theorem RowF.same {G G' : Hp} (e : Same G G') {v : V} (h : RowF G v) : RowF G' v := by
  obtain ⟨r, ns, h1, h2, h3⟩ := h
  exact ⟨r, ns, h1, h2.same e, h3⟩
def spLaw (K : PySem.W.Frag) : Sp := fun vs H Q _ => ∃ (a : Addr) (ns : List Int), vs = [.ref a] ∧ SqL K H a (ns.map V.int) ∧ ns.length ≤ 63 ∧ ∀ H', Q (.bl true) H'

theorem lg {i : Int} (h0 : 0 ≤ i) (h1 : i ≤ 9) : i.natAbs.log2 < 1920 := by
  have z : ∀ k : Nat, k < 10 → Nat.log2 k < 1920 := by decide
  exact z _ (by omega)
theorem tup_can (ns : List Int) : PyData.canLay0 (.tuple (ns.map PyData.int)) = true := by simp [PyData.canLay0, ints_can]
theorem lst_can (ns : List Int) : PyData.canLay0 (.list (ns.map PyData.int)) = true := by simp [PyData.canLay0, ints_can]
theorem tup_shaped (ns : List Int) : SeqAt.shaped (.tuple (ns.map PyData.int)) = true := by
  unfold SeqAt.shaped
  have e2 : PyData.depth (.tuple (ns.map PyData.int)) = 1 := by simp [PyData.depth, ints_depth]
  rw [tup_can, e2]
  rfl
/-! ### a box and the law's own model of it -/
inductive Bx where
  | kn (x dx r p d L e : Addr) (kv v : V) (f : Fm) (n num : List Int) (kvs kve : List (List Key × V))
  | th (x dx r d L e : Addr) (n num : List Int) (kvs kve : List (Key × V))
def Bx.cells (Cn Ct : Addr) : Bx → List (Addr × HO)
  | .kn x dx r p d L e kv v f n num kvs kve => [(x, .ins Cn dx (kF kv r p d)), (d, .dT kvs), (L, .lst [v, .ref r, .ref e]), (e, .dT kve)]
  | .th x dx r d L e n num kvs kve => [(x, .ins Ct dx (tF r d)), (d, .dK kvs), (L, .lst [.non, .ref r, .ref e]), (e, .dK kve)]
def Bx.x : Bx → Addr
  | .kn x _ _ _ _ _ _ _ _ _ _ _ _ _ => x
  | .th x _ _ _ _ _ _ _ _ _ => x
def Bx.l : Bx → Addr
  | .kn _ _ _ _ _ L _ _ _ _ _ _ _ _ => L
  | .th _ _ _ _ L _ _ _ _ _ => L
def Bx.ok (G : Hp) (Ck : Addr) : Bx → Prop
  | .kn _ _ r p _ _ _ kv v f n num kvs kve => KnOk G Ck f n num kv r p kvs ∧ FK G v f ∧ Hold kk kve (ids f n) num
  | .th _ _ r _ _ _ n num kvs kve => ThOk G n num r kvs ∧ Hold ik kve n num
theorem Bx.ok.same {G G' : Hp} {Ck : Addr} (e : Same G G') : ∀ {b : Bx}, b.ok G Ck → b.ok G' Ck
  | .kn .., h => ⟨h.1.same e, h.2.1.same e, h.2.2⟩
  | .th .., h => ⟨h.1.same e, h.2⟩
/-! ### known_by -/
def spKby : Sp := fun vs H Q _ => ∃ (G : Hp) (M : List (Addr × HO)) (v : V) (r : Addr) (n : List Int), vs = [v, .ref r] ∧ Sep G M H ∧ TupF G r (n.map V.int) ∧ RowOk n ∧
  ((v = .non ∧ ∀ (D : Addr) (G' H' : Hp), Same G G' → Sep G' M H' → G' D = some (.lst (n.map V.int)) → Q (.ref D) H') ∨
   ∃ f : Fm, FK G v f ∧ ∀ (D : Addr) (ws : List V) (G' H' : Hp), Same G G' → Sep G' M H' → G' D = some (.lst ws) → Paired (Pr G') ws (ids f n) → Q (.ref D) H')
theorem fm_ref {G : Hp} {v : V} {f : Fm} (h : FmAt G v f) : ∃ p, v = .ref p := by
  cases h <;> exact ⟨_, rfl⟩
theorem ok_known_by (T : Top K mg w) (G_idents : FnOk P w K mg base CX0 7 T.a_idents T.d_idents ["_law_key", "_law_row_here"] (spLIdents K)) : FnOk P w K mg base CX0 8 T.a_known_by T.d_known_by ["_law_form_here", "_law_row_here"] spKby := by
  refine T.F_known_by.ok sc_known_by (fun vs H Q E h => ?_) (fun cdv A outer s H vs Q E hr h => ?_)
  · obtain ⟨G, M, v, r, n, rfl, _⟩ := h
    rfl
  · obtain ⟨G, M, v, r, n, rfl, S, hr', ro, h⟩ := h
    refine ⟨_, (pss_cons (xs_if (xt_cmp op_isN (xv 0) pe_non (nomark _))
      (pss_one (ps_ret (pe_callTy (call_listK K) (by rfl) T.m_list (by decide +kernel) (pa_cons (xv 1) pa_nil))))
      pss_nil)
      (pss_one (ps_ret (pe_call G_idents (hr.mono (by omega)) (by rfl) T.g_idents T.F_idents.kp T.b_idents .nil pass0 (pa_cons (xv 0) (pa_cons (xv 1) pa_nil)))))), ?_⟩
    rcases h with ⟨rfl, q⟩ | ⟨f, hf, q⟩
    · refine ⟨rfl, fun _ => ⟨r, _, rfl, .inr (hr'.same S.1).tu.sq, fun D nD => ?_⟩, fun e => ?_⟩
      · exact q D _ _ (S.grow nD) (S.newG nD) upd_same
      · exact absurd e (by simp)
    · obtain ⟨p, rfl⟩ := fm_ref hf.1
      refine ⟨rfl, fun e => absurd e (by simp), fun _ => ?_⟩
      exact ⟨G, M, _, f, r, n, rfl, S, hf.1, hf.2.1, hf.2.2, hr'.tu, ro.len, fun D ws G' H' s' S' hD pr => q D ws G' H' s' S' hD pr⟩
/-! ### shows -/
def spShows : Sp := fun vs H Q _ => ∃ (G : Hp) (M : List (Addr × HO)) (L e r2 : Addr) (u : V) (n2 : List Int), vs = [.ref L, .ref r2] ∧ TupF G r2 (n2.map V.int) ∧ RowOk n2 ∧
  ((∃ (v : V) (f : Fm) (b : List (Int × Int)) (num : List Int) (kve : List (List Key × V)), Sep G ((L, .lst [v, u, .ref e]) :: (e, .dT kve) :: M) H ∧ FK G v f ∧ Hold kk kve b num ∧
      ∀ (e' : Addr) (kve' : List (List Key × V)) (G' H' : Hp), Same G G' → Hold kk kve' (ids f n2) (shown b num (ids f n2)) → Sep G' ((L, .lst [v, .ref r2, .ref e']) :: (e', .dT kve') :: M) H' → Q .non H') ∨
   ∃ (b : List Int) (num : List Int) (kve : List (Key × V)), Sep G ((L, .lst [.non, u, .ref e]) :: (e, .dK kve) :: M) H ∧ Hold ik kve b num ∧
      ∀ (e' : Addr) (kve' : List (Key × V)) (G' H' : Hp), Same G G' → Hold ik kve' n2 (shown b num n2) → Sep G' ((L, .lst [.non, .ref r2, .ref e']) :: (e', .dK kve') :: M) H' → Q .non H')
theorem ok_shows (T : Top K mg w) (G_known_by : FnOk P w K mg base CX0 8 T.a_known_by T.d_known_by ["_law_form_here", "_law_row_here"] spKby) : FnOk P w K mg base CX0 9 T.a_shows T.d_shows ["_law_model", "_law_row_here"] spShows := by
  refine T.F_shows.ok sc_shows (fun vs H Q E h => ?_) (fun cdv A outer s H vs Q E hr h => ?_)
  · obtain ⟨G, M, L, e, r2, u, n2, rfl, _⟩ := h
    rfl
  · obtain ⟨G, M, L, e, r2, u, n2, rfl, h2, ro2, h⟩ := h
    have l5 := ro2.len
    refine ⟨_, (pss_cons (ps_set (i := 2) sc_shows.nd rfl (.inl rfl) (pe_or pe_dnewK pe_dnewT))
      (pss_cons (ps_for PassesOwn.never rfl (pi_listK K (pe_call G_known_by (hr.mono (by omega)) (by rfl) T.g_known_by T.F_known_by.kp T.b_known_by .nil pass0 (pa_cons (pe_ix (ix_k K) (xv 0) pe_int (fun _ _ => rfl)) (pa_cons (xv 1) pa_nil)))) (pg_name (i := 3) sc_shows.nd rfl (.inl rfl))
      (pss_one (ps_dput (hu_of hr) (xv 2) (xv 3) (pe_dget2 (hu_of hr) (pe_ix (ix_k K) (xv 0) pe_int (fun _ _ => rfl)) (xv 3) pe_int ⟨by rfl, by rfl, by rfl, by rfl⟩) rfl)))
      (pss_cons (ps_asg (xv 1) (pg_sub (xv 0) pe_int set_list))
      (pss_one (ps_asg (xv 2) (pg_sub (xv 0) pe_int set_list)))))), ?_⟩
    rcases h with ⟨v, f, b, num, kve, S, hf, hh0, q⟩ | ⟨b, num, kve, S, hh0, q⟩
    · refine .inr fun d2 nd2 => ?_
      have S1 := S.new (o := .dT []) nd2
      refine ⟨_, _, .inl (SqL.of S1.sw.hd), rfl, G, _, v, r2, n2, rfl, S1, h2, ro2, .inr ⟨f, hf, fun D ws G2 H2 s2 S2 hD pr => ?_⟩⟩
      have wl := prd_len pr
      rw [ids_len] at wl
      refine ⟨D, rfl, ⟨ws, SqL.of (S2.st hD)⟩, for_list (xs := ws) (fun i σ H' => ∃ (y3 : Option V) (kvs2 : List (List Key × V)), σ = [some (.ref L), some (.ref r2), some (.ref d2), y3] ∧ Sep G2 ((d2, .dT kvs2) :: (L, .lst [v, u, .ref e]) :: (e, .dT kve) :: M) H' ∧ Hold kk kvs2 ((ids f n2).take i) (shown b num ((ids f n2).take i)))
        ⟨_, [], rfl, S2, Hold.nil⟩ (fun i σ H' _ h => ?_) (fun i y σ H' hy h => ?_) (fun σ H' h => ?_)⟩
      · obtain ⟨_, _, _, S', _⟩ := h
        exact SqL.of (S'.st hD)
      · obtain ⟨y3, kvs2, rfl, S7, hh⟩ := h
        obtain ⟨c, hc, a, rfl, ha⟩ := prd_get pr hy
        have hl := hh.len
        rw [List.length_take, ids_len] at hl
        have nm : c ∉ (ids f n2).take i := fun hm => by
          have nd := ids_nodup f n2
          rw [(take_pre hc).1, List.nodup_append] at nd
          exact nd.2.2 c hm c (by simp) rfl
        have he : H' e = some (.dT kve) := S7.at (by simp)
        have hg : DGet H' e (.ref a) ((look b num c).map V.int) := by
          rw [← hh0.at_ c]
          exact DGet.t he (S7.st ha)
        refine ⟨_, _, .inl (SqL.of S7.sw.hd), rfl, e, rfl, .inr ⟨kve, .inl he⟩, _, hg, ?_⟩
        have ee : ((look b num c).map V.int).getD (.int 0) = .int ((look b num c).getD 0) := by cases look b num c <;> rfl
        rw [ee]
        refine ⟨d2, _, rfl, DPut.t (k := kk c) S7.hd (S7.st ha) (smallL (by omega)), _, _, rfl, S7.set, ?_⟩
        rw [XL.take_snoc hc, shown_snoc]
        exact hh.snoc kk_inj nm
      · obtain ⟨y3, kvs2, rfl, S7, hh⟩ := h
        rw [List.take_of_length_le (by rw [ids_len]; omega)] at hh
        refine ⟨L, [v, u, .ref e], 1, 1, rfl, rfl, S7.sw.hd, rfl, ?_⟩
        have S8 := S7.sw.set (o' := .lst [v, .ref r2, .ref e])
        refine ⟨L, [v, .ref r2, .ref e], 2, 2, rfl, rfl, S8.hd, rfl, ?_⟩
        have S9 := S8.set (o' := .lst [v, .ref r2, .ref d2])
        exact q d2 kvs2 _ _ s2 hh S9.no3
    · refine .inl fun d2 nd2 => ?_
      have S1 := S.new (o := .dK []) nd2
      refine ⟨_, _, .inl (SqL.of S1.sw.hd), rfl, G, _, .non, r2, n2, rfl, S1, h2, ro2, .inl ⟨rfl, fun D G2 H2 s2 S2 hD => ?_⟩⟩
      refine ⟨D, rfl, ⟨_, SqL.of (S2.st hD)⟩, for_list (xs := n2.map V.int) (fun i σ H' => ∃ (y3 : Option V) (kvs2 : List (Key × V)), σ = [some (.ref L), some (.ref r2), some (.ref d2), y3] ∧ Sep G2 ((d2, .dK kvs2) :: (L, .lst [.non, u, .ref e]) :: (e, .dK kve) :: M) H' ∧ Hold ik kvs2 (n2.take i) (shown b num (n2.take i)))
        ⟨_, [], rfl, S2, Hold.nil⟩ (fun i σ H' _ h => ?_) (fun i y σ H' hy h => ?_) (fun σ H' h => ?_)⟩
      · obtain ⟨_, _, _, S', _⟩ := h
        exact SqL.of (S'.st hD)
      · obtain ⟨y3, kvs2, rfl, S7, hh⟩ := h
        rw [List.getElem?_map] at hy
        obtain ⟨c, hc, rfl⟩ := Option.map_eq_some_iff.mp hy
        have hl := hh.len
        rw [List.length_take] at hl
        have he : H' e = some (.dK kve) := S7.at (by simp)
        have hg : DGet H' e (.int c) ((look b num c).map V.int) := by
          rw [← hh0.at_ c]
          exact DGet.k (k := ik c) he
        refine ⟨_, _, .inl (SqL.of S7.sw.hd), rfl, e, rfl, .inl ⟨kve, .inl he⟩, _, hg, ?_⟩
        have ee : ((look b num c).map V.int).getD (.int 0) = .int ((look b num c).getD 0) := by cases look b num c <;> rfl
        rw [ee]
        refine ⟨d2, _, rfl, DPut.k (k := ik c) S7.hd (smallL (by omega)), _, _, rfl, S7.set, ?_⟩
        rw [XL.take_snoc hc, shown_snoc]
        exact hh.snoc inl_inj (not_take ro2.nd hc)
      · obtain ⟨y3, kvs2, rfl, S7, hh⟩ := h
        rw [List.length_map, List.take_length] at hh
        refine ⟨L, [.non, u, .ref e], 1, 1, rfl, rfl, S7.sw.hd, rfl, ?_⟩
        have S8 := S7.sw.set (o' := .lst [.non, .ref r2, .ref e])
        refine ⟨L, [.non, .ref r2, .ref e], 2, 2, rfl, rfl, S8.hd, rfl, ?_⟩
        have S9 := S8.set (o' := .lst [.non, .ref r2, .ref d2])
        exact q d2 kvs2 _ _ s2 hh S9.no3
end
end K26
set_option Elab.async false
set_option linter.all false
set_option maxRecDepth 100000
set_option maxHeartbeats 4000000
namespace K26
open PySem PySem.Spec PyProof.Rows L2 XL
section
variable {P : Program} {w : World} {K : PySem.W.Frag} {mg : Str → Option Value} {base : Heap}
/-! ### agrees -/
def spAgrees (Cn Ct Ck : Addr) : Sp := fun vs H Q _ => ∃ (G : Hp) (M : List (Addr × HO)) (b : Bx), vs = [.ref b.x, .ref b.l] ∧ Sep G (b.cells Cn Ct ++ M) H ∧ b.ok G Ck ∧ ∀ (G' H' : Hp), Same G G' → Sep G' (b.cells Cn Ct ++ M) H' → Q (.bl true) H'
theorem ok_agrees (T : Top K mg w) (G_Known_iter : FnOk P w K mg base CX0 8 T.a_Known_iter T.d_Known_iter ["self"] (spKnIter K T.C_Known)) (G_Things_iter : FnOk P w K mg base CX0 8 T.a_Things_iter T.d_Things_iter ["self"] (spThIter K T.C_Things))
    (G_known_by : FnOk P w K mg base CX0 8 T.a_known_by T.d_known_by ["_law_form_here", "_law_row_here"] spKby) (G_number : FnOk P w K mg base CX0 8 T.a_number T.d_number ["_law_thing"] spNumber)
    (G_Known_getitem : FnOk P w K mg base (L2.CX P w) 8 T.a_Known_getitem T.d_Known_getitem ["self", "item"] (spKnGetX K T.C_Known T.C_Key T.C_NoItem)) (G_Things_getitem : FnOk P w K mg base (L2.CX P w) 8 T.a_Things_getitem T.d_Things_getitem ["self", "item"] (spThGetX T.C_Things T.C_NoItem)) :
    FnOk P w K mg base CX0 11 T.a_agrees T.d_agrees ["_law_box", "_law_model"] (spAgrees T.C_Known T.C_Things T.C_Key) := by
  refine T.F_agrees.ok sc_agrees (fun vs H Q E h => ?_) (fun cdv A outer s H vs Q E hr h => ?_)
  · obtain ⟨G, M, b, rfl, _⟩ := h
    rfl
  · obtain ⟨G, M, b, rfl, S, ok, q⟩ := h
    refine ⟨_, (pss_cons (xs_if (PW.pt (xw_or (pt_not (xt_truK K (pe_callB (call_isK K) (by rfl) T.m_isinstance (by decide +kernel) (pa_cons (pe_fldK K (xv 0)) (pa_cons (pe_bltn (v := .ty "tuple") (by rfl) T.m_tuple (by decide +kernel) rfl) pa_nil))))) (xw_or (xt_cmp (op_neK K hr.units) (pe_fldK K (xv 0)) (pe_ix (ix_k K) (xv 1) pe_int (fun _ _ => rfl)) (nomark _)) (pw_or1 (xt_cmp (op_neK K hr.units) (pe_callTy (cr_or (call_listIt T.sp_Known_iter.1 T.sp_Known_iter.2 T.nl_Known T.nh_Known G_Known_iter T.b_Known_iter pass0 (hr.mono (by omega))) (call_listIt T.sp_Things_iter.1 T.sp_Things_iter.2 T.nl_Things T.nh_Things G_Things_iter T.b_Things_iter pass0 (hr.mono (by omega)))) (by rfl) T.m_list (by decide +kernel) (pa_cons (xv 0) pa_nil)) (pe_callTy (call_listK K) (by rfl) T.m_list (by decide +kernel) (pa_cons (pe_ix (ix_k K) (xv 1) pe_int (fun _ _ => rfl)) pa_nil)) (nomark _))))))
      (pss_one (ps_ret pe_bl))
      pss_nil)
      (pss_cons (ps_set (i := 2) sc_agrees.nd rfl (.inl rfl) (pe_call G_known_by (hr.mono (by omega)) (by rfl) T.g_known_by T.F_known_by.kp T.b_known_by .nil pass0 (pa_cons (pe_ix (ix_k K) (xv 1) pe_int (fun _ _ => rfl)) (pa_cons (pe_ix (ix_k K) (xv 1) pe_int (fun _ _ => rfl)) pa_nil))))
      (pss_cons (ps_for PassesOwn.never rfl (pi_range1 (by rfl) T.m_range (pa_cons (pe_callB (cr_lenK K) (by rfl) T.m_len (by decide +kernel) (pa_cons (xv 2) pa_nil)) pa_nil)) (pg_name (i := 3) sc_agrees.nd rfl (.inl rfl))
      (pss_cons (ps_set (i := 4) sc_agrees.nd rfl (.inl rfl) (pe_or (pe_ixO (xv 0) (pe_ix (ix_k K) (pe_ix (ix_k K) (xv 1) pe_int (fun _ _ => rfl)) (xv 3) (fun _ _ => rfl)) G_Known_getitem T.sp_Known_getitem.1 T.sp_Known_getitem.2.2 T.sp_Known_getitem.2.1 T.b_Known_getitem passL (hr.mono (by omega))) (pe_ixO (xv 0) (pe_ix (ix_k K) (pe_ix (ix_k K) (xv 1) pe_int (fun _ _ => rfl)) (xv 3) (fun _ _ => rfl)) G_Things_getitem T.sp_Things_getitem.1 T.sp_Things_getitem.2.2 T.sp_Things_getitem.2.1 T.b_Things_getitem passL (hr.mono (by omega)))))
      (pss_one (xs_if (PW.pt (xw_or (pt_not (xt_truK K (pe_call G_number (hr.mono (by omega)) (by rfl) T.g_number T.F_number.kp T.b_number .nil pass0 (pa_cons (xv 4) pa_nil)))) (pw_or1 (xt_cmp (op_neK K hr.units) (xv 4) (pe_dget (hu_of hr) (pe_ix (ix_k K) (xv 1) pe_int (fun _ _ => rfl)) (pe_ix (ix_k K) (xv 2) (xv 3) (fun _ _ => rfl)) (fun _ _ => rfl)) (nomark _)))))
      (pss_one (ps_ret pe_bl))
      pss_nil))))
      (pss_one (ps_ret pe_bl))))), ?_⟩
    cases b with
    | kn x dx r p d L e kv v f n num kvs kve =>
      obtain ⟨ko, hf, hh0⟩ := ok
      have hx : H x = some (.ins T.C_Known dx (kF kv r p d)) := S.at (by simp [Bx.cells])
      have hL : H L = some (.lst [v, .ref r, .ref e]) := S.at (by simp [Bx.cells])
      have FR := ko.row.same S.1
      have l5 := ko.ok.len
      refine ⟨x, T.C_Known, dx, _, _, rfl, hx, T.cl_Known, T.na_Known_row, kF_row, _, _, _, _, true, rfl, .ty _, FR.tu.ty, kit_ty (by decide +kernel), ff, fun _ => ?_⟩
      refine ⟨x, T.C_Known, dx, _, _, rfl, hx, T.cl_Known, T.na_Known_row, kF_row, _, _, .inl (SqL.of hL), rfl, .tuple (n.map PyData.int), .tuple (n.map PyData.int), .tup FR.tu.sq (ints_dp _), .tup FR.tu.sq (ints_dp _), tup_shaped _, tup_shaped _, fun e1 => ?_, fun _ => ?_⟩
      · rw [SeqAt.eqv_refl _ (tup_can n)] at e1
        cases e1
      refine .inl ⟨x, dx, _, rfl, hx, fun l1 nl1 => ?_⟩
      have S1 := S.new (o := .lst []) nl1
      refine ⟨x, dx, kv, r, p, d, _, rfl, S1.at (by simp [Bx.cells]), (ko.row.same S1.1).tu.sq, fun it nit => ?_⟩
      have S2 := S1.new (o := ItT r it 0) nit
      refine ⟨it, r, n.map V.int, rfl, S2.hd, (ko.row.same S2.1).tu.sq, S2.sw.hd, ⟨dx, kF kv r p d, S2.at (by simp [Bx.cells])⟩, ?_⟩
      have S3 := (S2.set (o' := ItTE it)).sw.set (o' := .lst (n.map V.int))
      have hL3 := S3.at (show (L, HO.lst [v, .ref r, .ref e]) ∈ _ by simp [Bx.cells])
      refine ⟨_, _, .inl (SqL.of hL3), rfl, r, _, rfl, .inr (ko.row.same S3.1).tu.sq, fun l4 nl4 => ?_⟩
      have S4 := S3.new (o := .lst (n.map V.int)) nl4
      refine ⟨.list (n.map PyData.int), .list (n.map PyData.int), .lst (SqL.of S4.sw.hd) (ints_dp _), .lst (SqL.of S4.hd) (ints_dp _), ints_shaped _, ints_shaped _, fun e1 => ?_, fun _ => ?_⟩
      · rw [SeqAt.eqv_refl _ (lst_can n)] at e1
        cases e1
      have S5 := S4.drop.drop.drop
      have hL5 := S5.at (show (L, HO.lst [v, .ref r, .ref e]) ∈ _ by simp [Bx.cells])
      refine ⟨_, _, .inl (SqL.of hL5), rfl, _, _, .inl (SqL.of hL5), rfl, G, _, v, r, n, rfl, S5, ko.row, ko.ok, .inr ⟨f, hf, fun D ws G6 H6 s6 S6 hD pr => ?_⟩⟩
      have wl := prd_len pr
      rw [ids_len] at wl
      refine ⟨_, .inl (SqL.of (S6.st hD)), _, rfl, by omega, by omega, ?_⟩
      rw [show ((ws.length : Nat) : Int).toNat = ws.length from rfl]
      refine for_range (lo := 0) (n := ws.length) (fun i σ H' => ∃ (y3 y4 : Option V), σ = [some (.ref x), some (.ref L), some (.ref D), y3, y4] ∧ H' = H6) ⟨_, _, rfl, rfl⟩ (fun i σ H' hi h => ?_) (fun σ H' h => ?_)
      · obtain ⟨y3, y4, rfl, rfl⟩ := h
        rw [Int.zero_add]
        have hi2 : i < n.length := by omega
        have hL6 := S6.at (show (L, HO.lst [v, .ref r, .ref e]) ∈ _ by simp [Bx.cells])
        have he6 := S6.at (show (e, HO.dT kve) ∈ _ by simp [Bx.cells])
        have lo := ko.ok.lo _ (List.mem_of_getElem? (getD_some hi2))
        have row6 := ((ko.row.same s6).same S6.1).tu.sq (K := K)
        refine .inl ⟨_, _, .inl (SqL.of hL6), rfl, _, _, .inr row6, at_int hi2, x, dx, kF kv r p d, rfl, S6.at (by simp [Bx.cells]), G6, _, x, dx, kv, r, p, d, kvs, f, n, num, _, rfl, S6, S6.at (by simp [Bx.cells]), S6.at (by simp [Bx.cells]), ko.same s6, lg lo.1 lo.2, fun j hj => ?_, fun no => absurd (List.mem_of_getElem? (getD_some hi2)) no⟩
        have ej : j = i := (nodup_int ko.ok.nd (getD_some hi2)).mp hj
        subst ej
        have hw := List.getElem?_eq_getElem hi
        obtain ⟨c, hc, a, ea, ha⟩ := prd_get pr hw
        rw [ea] at hw
        have nl := hh0.num
        rw [ids_len] at nl
        have hnum : num[j]? = some (num.getD j 0) := getD_some (by omega)
        have hv : valV kve (kk c) = some (.int (num.getD j 0)) := by rw [hh0.at_, look_at (ids_nodup f n) hc hnum]; rfl
        have hg : DGet H' e (.ref a) (some (.int (num.getD j 0))) := by
          rw [← hv]
          exact DGet.t he6 (S6.st ha)
        refine ⟨_, rfl, ff, fun _ => ⟨_, _, .inl (SqL.of hL6), rfl, _, _, .inl (SqL.of (S6.st hD)), atI_nat hw, e, _, rfl, hg, fun e1 => ?_, fun _ => ⟨_, _, rfl, rfl⟩⟩⟩
        rw [decide_eq_true rfl] at e1
        cases e1
      · obtain ⟨y3, y4, rfl, rfl⟩ := h
        exact q G6 _ s6 S6
    | th x dx r d L e n num kvs kve =>
      obtain ⟨ko, hh0⟩ := ok
      have hx : H x = some (.ins T.C_Things dx (tF r d)) := S.at (by simp [Bx.cells])
      have hL : H L = some (.lst [.non, .ref r, .ref e]) := S.at (by simp [Bx.cells])
      have FR := ko.row.same S.1
      have l5 := ko.ok.len
      refine ⟨x, T.C_Things, dx, _, _, rfl, hx, T.cl_Things, T.na_Things_row, tF_row, _, _, _, _, true, rfl, .ty _, FR.tu.ty, kit_ty (by decide +kernel), ff, fun _ => ?_⟩
      refine ⟨x, T.C_Things, dx, _, _, rfl, hx, T.cl_Things, T.na_Things_row, tF_row, _, _, .inl (SqL.of hL), rfl, .tuple (n.map PyData.int), .tuple (n.map PyData.int), .tup FR.tu.sq (ints_dp _), .tup FR.tu.sq (ints_dp _), tup_shaped _, tup_shaped _, fun e1 => ?_, fun _ => ?_⟩
      · rw [SeqAt.eqv_refl _ (tup_can n)] at e1
        cases e1
      refine .inr ⟨x, dx, _, rfl, hx, fun l1 nl1 => ?_⟩
      have S1 := S.new (o := .lst []) nl1
      refine ⟨x, dx, r, d, _, rfl, S1.at (by simp [Bx.cells]), (ko.row.same S1.1).tu.sq, fun it nit => ?_⟩
      have S2 := S1.new (o := ItT r it 0) nit
      refine ⟨it, r, n.map V.int, rfl, S2.hd, (ko.row.same S2.1).tu.sq, S2.sw.hd, ⟨dx, tF r d, S2.at (by simp [Bx.cells])⟩, ?_⟩
      have S3 := (S2.set (o' := ItTE it)).sw.set (o' := .lst (n.map V.int))
      have hL3 := S3.at (show (L, HO.lst [.non, .ref r, .ref e]) ∈ _ by simp [Bx.cells])
      refine ⟨_, _, .inl (SqL.of hL3), rfl, r, _, rfl, .inr (ko.row.same S3.1).tu.sq, fun l4 nl4 => ?_⟩
      have S4 := S3.new (o := .lst (n.map V.int)) nl4
      refine ⟨.list (n.map PyData.int), .list (n.map PyData.int), .lst (SqL.of S4.sw.hd) (ints_dp _), .lst (SqL.of S4.hd) (ints_dp _), ints_shaped _, ints_shaped _, fun e1 => ?_, fun _ => ?_⟩
      · rw [SeqAt.eqv_refl _ (lst_can n)] at e1
        cases e1
      have S5 := S4.drop.drop.drop
      have hL5 := S5.at (show (L, HO.lst [.non, .ref r, .ref e]) ∈ _ by simp [Bx.cells])
      refine ⟨_, _, .inl (SqL.of hL5), rfl, _, _, .inl (SqL.of hL5), rfl, G, _, .non, r, n, rfl, S5, ko.row, ko.ok, .inl ⟨rfl, fun D G6 H6 s6 S6 hD => ?_⟩⟩
      refine ⟨_, .inl (SqL.of (S6.st hD)), _, rfl, by simp, by simp; omega, ?_⟩
      rw [show (((n.map V.int).length : Nat) : Int).toNat = n.length by simp]
      refine for_range (lo := 0) (n := n.length) (fun i σ H' => ∃ (y3 y4 : Option V), σ = [some (.ref x), some (.ref L), some (.ref D), y3, y4] ∧ H' = H6) ⟨_, _, rfl, rfl⟩ (fun i σ H' hi h => ?_) (fun σ H' h => ?_)
      · obtain ⟨y3, y4, rfl, rfl⟩ := h
        rw [Int.zero_add]
        have hL6 := S6.at (show (L, HO.lst [.non, .ref r, .ref e]) ∈ _ by simp [Bx.cells])
        have he6 := S6.at (show (e, HO.dK kve) ∈ _ by simp [Bx.cells])
        have lo := ko.ok.lo _ (List.mem_of_getElem? (getD_some hi))
        have row6 := ((ko.row.same s6).same S6.1).tu.sq (K := K)
        refine .inr ⟨_, _, .inl (SqL.of hL6), rfl, _, _, .inr row6, at_int hi, x, dx, tF r d, rfl, S6.at (by simp [Bx.cells]), G6, _, x, dx, r, d, kvs, n, num, _, rfl, S6, S6.at (by simp [Bx.cells]), S6.at (by simp [Bx.cells]), ko.same s6, lg lo.1 lo.2, fun j hj => ?_, fun no => absurd (List.mem_of_getElem? (getD_some hi)) no⟩
        have ej : j = i := (nodup_int ko.ok.nd (getD_some hi)).mp hj
        subst ej
        have nl := hh0.num
        have hnum : num[j]? = some (num.getD j 0) := getD_some (by omega)
        have hv : valV kve (ik (n.getD j 0)) = some (.int (num.getD j 0)) := by rw [hh0.at_, look_at ko.ok.nd (getD_some hi) hnum]; rfl
        have hg : DGet H' e (.int (n.getD j 0)) (some (.int (num.getD j 0))) := by
          rw [← hv]
          exact DGet.k (k := ik (n.getD j 0)) he6
        refine ⟨_, rfl, ff, fun _ => ⟨_, _, .inl (SqL.of hL6), rfl, _, _, .inl (SqL.of (S6.st hD)), at_int hi, e, _, rfl, hg, fun e1 => ?_, fun _ => ⟨_, _, rfl, rfl⟩⟩⟩
        rw [decide_eq_true rfl] at e1
        cases e1
      · obtain ⟨y3, y4, rfl, rfl⟩ := h
        exact q G6 _ s6 S6
end
end K26
set_option Elab.async false
set_option linter.all false
set_option maxRecDepth 100000
set_option maxHeartbeats 4000000
namespace K26
open PySem PySem.Spec PyProof.Rows L2 XL
section
variable {P : Program} {w : World} {K : PySem.W.Frag} {mg : Str → Option Value} {base : Heap}
/-! ### what is refused -/
def Bx.row : Bx → List Int
  | .kn _ _ _ _ _ _ _ _ _ _ n _ _ _ => n
  | .th _ _ _ _ _ _ n _ _ _ => n
def spNot (Cn Ct Ck : Addr) : Sp := fun vs H Q _ => ∃ (G : Hp) (M : List (Addr × HO)) (b : Bx) (it : Int), vs = [.ref b.x, .int it] ∧ Sep G (b.cells Cn Ct ++ M) H ∧ b.ok G Ck ∧ it ∉ b.row ∧ 0 ≤ it ∧ it ≤ 9 ∧ ∀ (G' H' : Hp), Same G G' → Sep G' (b.cells Cn Ct ++ M) H' → Q (.bl true) H'
theorem kit_two {K : PySem.W.Frag} {t : Value} {a b : Addr} (h1 : PySem.W.kitOne K t (.ref a) = some false) (h2 : PySem.W.kitOne K t (.ref b) = some false) : PySem.W.kitAny K t [.ref a, .ref b] = some false := by
  unfold PySem.W.kitAny
  rw [h1]
  show PySem.W.kitAny K t [.ref b] = some false
  unfold PySem.W.kitAny
  rw [h2]
  rfl
theorem kit_self {K : PySem.W.Frag} {a : Addr} : PySem.W.kitOne K (.ref a) (.ref a) = some true := if_pos (beq_self_eq_true _)
theorem ok_not_read (T : Top K mg w) (pf : PySem.XExc.PF P T.x_file) (G_Known_getitem : FnOk P w K mg base (L2.CX P w) 8 T.a_Known_getitem T.d_Known_getitem ["self", "item"] (spKnGetX K T.C_Known T.C_Key T.C_NoItem)) (G_Things_getitem : FnOk P w K mg base (L2.CX P w) 8 T.a_Things_getitem T.d_Things_getitem ["self", "item"] (spThGetX T.C_Things T.C_NoItem)) :
    FnOk P w K mg base CX0 10 T.a_not_read T.d_not_read ["_law_box", "_law_item"] (spNot T.C_Known T.C_Things T.C_Key) := by
  refine T.F_not_read.ok sc_not_read (fun vs H Q E h => ?_) (fun cdv A outer s H vs Q E hr h => ?_)
  · obtain ⟨G, M, b, it, rfl, _⟩ := h
    rfl
  · obtain ⟨G, M, b, it, rfl, S, ok, no, i0, i9, q⟩ := h
    refine ⟨_, (pss_cons (ps_try_as (i := 3) (Wout := fun _ _ _ _ => False) rfl rfl sc_not_read.nd rfl rfl ⟨rfl, by decide, Or.inl T.g_ScreenError⟩ takes0
      (fun W pn xe tk _ => (pss_one (ps_set (i := 2) sc_not_read.nd rfl (.inl rfl) (pe_or (pe_ixOS (xv 0) (xv 1) G_Known_getitem T.sp_Known_getitem.1 T.sp_Known_getitem.2.2 T.sp_Known_getitem.2.1 T.b_Known_getitem (fun σ => passAt tk σ) (hr.mono (by omega))) (pe_ixOS (xv 0) (xv 1) G_Things_getitem T.sp_Things_getitem.1 T.sp_Things_getitem.2.2 T.sp_Things_getitem.2.1 T.b_Things_getitem (fun σ => passAt tk σ) (hr.mono (by omega)))))))
      (fun a oe cls d pn hz hf => (pss_one (ps_ret (xe_and (pe_callB (call_isX hz hf) (by rfl) T.m_isinstance (by decide +kernel) (pa_cons (xv 3) (pa_cons (pe_glob (v := .ref T.C_NoItem) (by rfl) T.g_NoItem rfl) pa_nil))) (xe_and (xe_not (pe_callB (call_isX hz hf) (by rfl) T.m_isinstance (by decide +kernel) (pa_cons (xv 3) (pa_cons (pe_tup (pa_cons (pe_glob (v := .ref T.C_NoName) (by rfl) T.g_NoName rfl) (pa_cons (pe_glob (v := .ref T.C_BadRow) (by rfl) T.g_BadRow rfl) pa_nil))) pa_nil)))) (pe_one (pe_cmpR (op_eqK K hr.units) (pe_xf T.xf_NoItem (T.x_NoItem P pf).noN hz hf (xv 3)) (xv 1) (nomark _)))))))))
      (pss_one (ps_ret pe_bl))), ?_⟩
    cases b with
    | kn x dx r p d L e kv v f n num kvs kve =>
      obtain ⟨ko, hf, hh0⟩ := ok
      refine .inl ⟨x, dx, kF kv r p d, rfl, S.at (by simp [Bx.cells]), G, _, x, dx, kv, r, p, d, kvs, f, n, num, it, rfl, S, S.at (by simp [Bx.cells]), S.at (by simp [Bx.cells]), ko, lg i0 i9, fun j hj => absurd (List.mem_of_getElem? hj) no, fun _ dd ndd => ?_⟩
      have S1 := S.newG (o := .xd [("item", .int it)]) ndd
      have s1 := S.grow (o := .xd [("item", .int it)]) ndd
      refine ⟨true, T.em_NoItem_ScreenError, fun _ a na => ?_, tt⟩
      have hd1 : (upd G dd (.xd [("item", .int it)])) dd = some (.xd [("item", .int it)]) := upd_same
      generalize upd G dd (.xd [("item", .int it)]) = G1 at *
      refine ⟨T.C_NoItem, dd, _, true, rfl, rfl, S1.st hd1, T.xc_NoItem, .inl ⟨_, _, rfl, fun u r => r, kit_self⟩, fun _ => ⟨sz, fun t nt => ?_⟩, tt⟩
      have S2 := S1.newG (o := .tup [.ref T.C_NoName, .ref T.C_BadRow]) nt
      have s2 := S1.grow (o := .tup [.ref T.C_NoName, .ref T.C_BadRow]) nt
      refine ⟨T.C_NoItem, dd, _, false, rfl, rfl, S2.st (s2 _ _ hd1), T.xc_NoItem, .inr ⟨t, _, _, rfl, upd_same, .cons (.cons .nil), kit_two T.ki_NoItem_NoName T.ki_NoItem_BadRow⟩, fun _ => ?_, tt⟩
      refine ⟨rfl, rfl, dd, _, _, rfl, S2.st (s2 _ _ hd1), lk_eq, ?_⟩
      have z := q _ _ (s1.trans s2) S2
      rw [← decide_eq_true (rfl : it = it)] at z
      exact z
    | th x dx r d L e n num kvs kve =>
      obtain ⟨ko, hh0⟩ := ok
      refine .inr ⟨x, dx, tF r d, rfl, S.at (by simp [Bx.cells]), G, _, x, dx, r, d, kvs, n, num, it, rfl, S, S.at (by simp [Bx.cells]), S.at (by simp [Bx.cells]), ko, lg i0 i9, fun j hj => absurd (List.mem_of_getElem? hj) no, fun _ dd ndd => ?_⟩
      have S1 := S.newG (o := .xd [("item", .int it)]) ndd
      have s1 := S.grow (o := .xd [("item", .int it)]) ndd
      refine ⟨true, T.em_NoItem_ScreenError, fun _ a na => ?_, tt⟩
      have hd1 : (upd G dd (.xd [("item", .int it)])) dd = some (.xd [("item", .int it)]) := upd_same
      generalize upd G dd (.xd [("item", .int it)]) = G1 at *
      refine ⟨T.C_NoItem, dd, _, true, rfl, rfl, S1.st hd1, T.xc_NoItem, .inl ⟨_, _, rfl, fun u r => r, kit_self⟩, fun _ => ⟨sz, fun t nt => ?_⟩, tt⟩
      have S2 := S1.newG (o := .tup [.ref T.C_NoName, .ref T.C_BadRow]) nt
      have s2 := S1.grow (o := .tup [.ref T.C_NoName, .ref T.C_BadRow]) nt
      refine ⟨T.C_NoItem, dd, _, false, rfl, rfl, S2.st (s2 _ _ hd1), T.xc_NoItem, .inr ⟨t, _, _, rfl, upd_same, .cons (.cons .nil), kit_two T.ki_NoItem_NoName T.ki_NoItem_BadRow⟩, fun _ => ?_, tt⟩
      refine ⟨rfl, rfl, dd, _, _, rfl, S2.st (s2 _ _ hd1), lk_eq, ?_⟩
      have z := q _ _ (s1.trans s2) S2
      rw [← decide_eq_true (rfl : it = it)] at z
      exact z
theorem ok_not_set (T : Top K mg w) (pf : PySem.XExc.PF P T.x_file) (G_Known_setitem : FnOk P w K mg base (L2.CX P w) 8 T.a_Known_setitem T.d_Known_setitem ["self", "item", "number"] (spKnSetX K T.C_Known T.C_Key T.C_NoItem)) (G_Things_setitem : FnOk P w K mg base (L2.CX P w) 8 T.a_Things_setitem T.d_Things_setitem ["self", "item", "number"] (spThSetX T.C_Things T.C_NoItem)) :
    FnOk P w K mg base CX0 10 T.a_not_set T.d_not_set ["_law_box", "_law_item"] (spNot T.C_Known T.C_Things T.C_Key) := by
  refine T.F_not_set.ok sc_not_set (fun vs H Q E h => ?_) (fun cdv A outer s H vs Q E hr h => ?_)
  · obtain ⟨G, M, b, it, rfl, _⟩ := h
    rfl
  · obtain ⟨G, M, b, it, rfl, S, ok, no, i0, i9, q⟩ := h
    refine ⟨_, (pss_cons (ps_try_as (i := 2) (Wout := fun _ _ _ _ => False) rfl rfl sc_not_set.nd rfl rfl ⟨rfl, by decide, Or.inl T.g_ScreenError⟩ takes0
      (fun W pn xe tk _ => (pss_one (ps_asg pe_int (pg_or (pg_subOS (xv 0) (xv 1) G_Known_setitem T.sp_Known_setitem.2.2 T.sp_Known_setitem.1 T.sp_Known_setitem.2.1 T.b_Known_setitem (fun σ => passAt tk σ) (hr.mono (by omega))) (pg_subOS (xv 0) (xv 1) G_Things_setitem T.sp_Things_setitem.2.2 T.sp_Things_setitem.1 T.sp_Things_setitem.2.1 T.b_Things_setitem (fun σ => passAt tk σ) (hr.mono (by omega)))))))
      (fun a oe cls d pn hz hf => (pss_one (ps_ret (xe_and (pe_callB (call_isX hz hf) (by rfl) T.m_isinstance (by decide +kernel) (pa_cons (xv 2) (pa_cons (pe_glob (v := .ref T.C_NoItem) (by rfl) T.g_NoItem rfl) pa_nil))) (xe_and (xe_not (pe_callB (call_isX hz hf) (by rfl) T.m_isinstance (by decide +kernel) (pa_cons (xv 2) (pa_cons (pe_tup (pa_cons (pe_glob (v := .ref T.C_NoName) (by rfl) T.g_NoName rfl) (pa_cons (pe_glob (v := .ref T.C_BadRow) (by rfl) T.g_BadRow rfl) pa_nil))) pa_nil)))) (pe_one (pe_cmpR (op_eqK K hr.units) (pe_xf T.xf_NoItem (T.x_NoItem P pf).noN hz hf (xv 2)) (xv 1) (nomark _)))))))))
      (pss_one (ps_ret pe_bl))), ?_⟩
    cases b with
    | kn x dx r p d L e kv v f n num kvs kve =>
      obtain ⟨ko, hf, hh0⟩ := ok
      refine .inl ⟨x, dx, kF kv r p d, rfl, S.at (by simp [Bx.cells]), G, _, x, dx, kv, r, p, d, kvs, f, n, num, it, 7, rfl, S, ko, lg i0 i9, fun j _ _ hj => absurd (List.mem_of_getElem? hj) no, fun _ dd ndd => ?_⟩
      have S1 := S.newG (o := .xd [("item", .int it)]) ndd
      have s1 := S.grow (o := .xd [("item", .int it)]) ndd
      refine ⟨true, T.em_NoItem_ScreenError, fun _ a na => ?_, tt⟩
      have hd1 : (upd G dd (.xd [("item", .int it)])) dd = some (.xd [("item", .int it)]) := upd_same
      generalize upd G dd (.xd [("item", .int it)]) = G1 at *
      refine ⟨T.C_NoItem, dd, _, true, rfl, rfl, S1.st hd1, T.xc_NoItem, .inl ⟨_, _, rfl, fun u r => r, kit_self⟩, fun _ => ⟨sz, fun t nt => ?_⟩, tt⟩
      have S2 := S1.newG (o := .tup [.ref T.C_NoName, .ref T.C_BadRow]) nt
      have s2 := S1.grow (o := .tup [.ref T.C_NoName, .ref T.C_BadRow]) nt
      refine ⟨T.C_NoItem, dd, _, false, rfl, rfl, S2.st (s2 _ _ hd1), T.xc_NoItem, .inr ⟨t, _, _, rfl, upd_same, .cons (.cons .nil), kit_two T.ki_NoItem_NoName T.ki_NoItem_BadRow⟩, fun _ => ?_, tt⟩
      refine ⟨rfl, rfl, dd, _, _, rfl, S2.st (s2 _ _ hd1), lk_eq, ?_⟩
      have z := q _ _ (s1.trans s2) S2
      rw [← decide_eq_true (rfl : it = it)] at z
      exact z
    | th x dx r d L e n num kvs kve =>
      obtain ⟨ko, hh0⟩ := ok
      refine .inr ⟨x, dx, tF r d, rfl, S.at (by simp [Bx.cells]), G, _, x, dx, r, d, kvs, n, num, it, 7, rfl, S, ko, lg i0 i9, fun j _ _ hj => absurd (List.mem_of_getElem? hj) no, fun _ dd ndd => ?_⟩
      have S1 := S.newG (o := .xd [("item", .int it)]) ndd
      have s1 := S.grow (o := .xd [("item", .int it)]) ndd
      refine ⟨true, T.em_NoItem_ScreenError, fun _ a na => ?_, tt⟩
      have hd1 : (upd G dd (.xd [("item", .int it)])) dd = some (.xd [("item", .int it)]) := upd_same
      generalize upd G dd (.xd [("item", .int it)]) = G1 at *
      refine ⟨T.C_NoItem, dd, _, true, rfl, rfl, S1.st hd1, T.xc_NoItem, .inl ⟨_, _, rfl, fun u r => r, kit_self⟩, fun _ => ⟨sz, fun t nt => ?_⟩, tt⟩
      have S2 := S1.newG (o := .tup [.ref T.C_NoName, .ref T.C_BadRow]) nt
      have s2 := S1.grow (o := .tup [.ref T.C_NoName, .ref T.C_BadRow]) nt
      refine ⟨T.C_NoItem, dd, _, false, rfl, rfl, S2.st (s2 _ _ hd1), T.xc_NoItem, .inr ⟨t, _, _, rfl, upd_same, .cons (.cons .nil), kit_two T.ki_NoItem_NoName T.ki_NoItem_BadRow⟩, fun _ => ?_, tt⟩
      refine ⟨rfl, rfl, dd, _, _, rfl, S2.st (s2 _ _ hd1), lk_eq, ?_⟩
      have z := q _ _ (s1.trans s2) S2
      rw [← decide_eq_true (rfl : it = it)] at z
      exact z
end
end K26
set_option Elab.async false
set_option linter.all false
set_option maxRecDepth 100000
set_option maxHeartbeats 4000000
namespace K26
open PySem PySem.Spec PyProof.Rows L2 XL
section
variable {P : Program} {w : World} {K : PySem.W.Frag} {mg : Str → Option Value} {base : Heap}
/-! ### a step -/
def spStep (Cn Ct Ck : Addr) : Sp := fun vs H Q _ => ∃ (G : Hp) (M : List (Addr × HO)) (b : Addr) (o : HO) (bx : Bx) (m : Addr) (us : List V) (xs : List (Addr × List Int)), vs = [.ref b, .ref bx.x, .ref bx.l, .ref m] ∧ Sep G ((b, o) :: (bx.cells Cn Ct ++ M)) H ∧ Bag G o ∧ bx.ok G Ck ∧ Tu G m us ∧ Paired (RowsAt G) us xs ∧ 1 ≤ us.length ∧ us.length ≤ 5 ∧
  ∀ (o' : HO) (bx' : Bx) (G' H' : Hp), Same G G' → bx'.x = bx.x → bx'.l = bx.l → bx'.ok G' Ck → Bag G' o' → Sep G' ((b, o') :: (bx'.cells Cn Ct ++ M)) H' → Q (.bl true) H'
section
variable {G H : Hp} {b x d y e : Addr × HO} {M : List (Addr × HO)}
theorem p_box (S : Sep G (b :: x :: d :: y :: e :: M) H) : Sep G (x :: d :: b :: y :: e :: M) H := S.perm (List.perm_append_comm_assoc [b] [x, d] (y :: e :: M))
theorem p_mod (S : Sep G (x :: d :: b :: y :: e :: M) H) : Sep G (y :: e :: b :: x :: d :: M) H := (S.perm (List.perm_append_comm_assoc [x, d, b] [y, e] M)).perm ((List.perm_append_comm_assoc [x, d] [b] M).append_left [y, e])
theorem p_back (S : Sep G (y :: e :: b :: x :: d :: M) H) : Sep G (b :: x :: d :: y :: e :: M) H := S.perm (List.perm_append_comm_assoc [y, e] [b, x, d] M)
theorem p_e (S : Sep G (b :: x :: d :: y :: e :: M) H) : Sep G (e :: b :: x :: d :: y :: M) H := S.perm (List.perm_append_comm_assoc [b, x, d, y] [e] M)
theorem p_e2 (S : Sep G (e :: b :: x :: d :: y :: M) H) : Sep G (b :: x :: d :: y :: e :: M) H := S.perm (List.perm_append_comm_assoc [e] [b, x, d, y] M)
theorem p_x2 (S : Sep G (x :: d :: b :: y :: e :: M) H) : Sep G (b :: x :: d :: y :: e :: M) H := S.perm (List.perm_append_comm_assoc [x, d] [b] (y :: e :: M))
theorem p_cells (S : Sep G (b :: x :: d :: y :: e :: M) H) : Sep G (x :: d :: y :: e :: b :: M) H := S.perm (List.perm_append_comm_assoc [b] [x, d, y, e] M)
theorem p_cells2 (S : Sep G (x :: d :: y :: e :: b :: M) H) : Sep G (b :: x :: d :: y :: e :: M) H := S.perm (List.perm_append_comm_assoc [x, d, y, e] [b] M)
end
theorem missing_step {n : List Int} {i : Nat} (hi : i < 10) : ((dig.take (i + 1)).filter fun x => !decide (x ∈ n)) = ((dig.take i).filter fun x => !decide (x ∈ n)) ++ (if !decide (((0 : Int) + (i : Nat)) ∈ n) then [(0 : Int) + (i : Nat)] else []) := by
  have hd : dig[i]? = some ((0 : Int) + (i : Nat)) := by
    have : ∀ j : Nat, j < 10 → dig[j]? = some ((0 : Int) + (j : Nat)) := by decide
    exact this i hi
  rw [XL.take_snoc hd, List.filter_append]
  congr 1
  generalize (0 : Int) + (i : Nat) = z
  by_cases h : z ∈ n <;> simp [h]
theorem ok_step (T : Top K mg w) (G_pick : FnOk P w K mg base CX0 3 T.a_pick T.d_pick ["_law_bag_here", "_law_many"] spPick) (G_Known_show : FnOk P w K mg base CX0 9 T.a_Known_show T.d_Known_show ["self", "row"] (spKnShow K T.C_Known T.C_Key)) (G_Things_show : FnOk P w K mg base CX0 8 T.a_Things_show T.d_Things_show ["self", "row"] (spThShow K T.C_Things))
    (G_shows : FnOk P w K mg base CX0 9 T.a_shows T.d_shows ["_law_model", "_law_row_here"] spShows) (G_known_by : FnOk P w K mg base CX0 8 T.a_known_by T.d_known_by ["_law_form_here", "_law_row_here"] spKby)
    (G_Known_setitem : FnOk P w K mg base (L2.CX P w) 8 T.a_Known_setitem T.d_Known_setitem ["self", "item", "number"] (spKnSetX K T.C_Known T.C_Key T.C_NoItem)) (G_Things_setitem : FnOk P w K mg base (L2.CX P w) 8 T.a_Things_setitem T.d_Things_setitem ["self", "item", "number"] (spThSetX T.C_Things T.C_NoItem))
    (G_not_read : FnOk P w K mg base CX0 10 T.a_not_read T.d_not_read ["_law_box", "_law_item"] (spNot T.C_Known T.C_Things T.C_Key)) (G_not_set : FnOk P w K mg base CX0 10 T.a_not_set T.d_not_set ["_law_box", "_law_item"] (spNot T.C_Known T.C_Things T.C_Key)) :
    FnOk P w K mg base CX0 11 T.a_step T.d_step ["_law_bag_here", "_law_box", "_law_model", "_law_rows"] (spStep T.C_Known T.C_Things T.C_Key) := by
  refine T.F_step.ok sc_step (fun vs H Q E h => ?_) (fun cdv A outer s H vs Q E hr h => ?_)
  · obtain ⟨G, M, b, o, bx, m, us, xs, rfl, _⟩ := h
    rfl
  · obtain ⟨G, M, b, o, bx, m, us, xs, rfl, S, B, ok, hm, pu, u1, u5, q⟩ := h
    refine ⟨_, (pss_cons (ps_set (i := 4) sc_step.nd rfl (.inl rfl) (pe_call G_pick (hr.mono (by omega)) (by rfl) T.g_pick T.F_pick.kp T.b_pick .nil pass0 (pa_cons (xv 0) (pa_cons pe_int pa_nil))))
      (pss_cons (ps_set (i := 5) sc_step.nd rfl (.inr rfl) (pe_ix (ix_k K) (xv 2) pe_int (fun _ _ => rfl)))
      (pss_cons (xs_if (xt_cmp op_ltY (xv 4) pe_int (nomark _))
      (pss_cons (ps_set (i := 6) sc_step.nd rfl (.inl rfl) (pe_ix (ix_k K) (xv 3) (pe_call G_pick (hr.mono (by omega)) (by rfl) T.g_pick T.F_pick.kp T.b_pick .nil pass0 (pa_cons (xv 0) (pa_cons (pe_callB (cr_lenK K) (by rfl) T.m_len (by decide +kernel) (pa_cons (xv 3) pa_nil)) pa_nil))) (fun _ _ => rfl)))
      (pss_cons (ps_expr (pe_or (pe_meth (xv 1) T.cl_Known T.me_Known_show G_Known_show (hr.mono (by omega)) T.b_Known_show .nil pass0 (pa_cons (xv 6) pa_nil)) (pe_meth (xv 1) T.cl_Things T.me_Things_show G_Things_show (hr.mono (by omega)) T.b_Things_show .nil pass0 (pa_cons (xv 6) pa_nil))))
      (pss_one (ps_expr (pe_call G_shows (hr.mono (by omega)) (by rfl) T.g_shows T.F_shows.kp T.b_shows .nil pass0 (pa_cons (xv 2) (pa_cons (xv 6) pa_nil)))))))
      (pss_one (xs_if (PW.pt (xw_and (xt_cmp op_ltY (xv 4) pe_int (nomark _)) (pw_and1 (xt_truK K (xv 5)))))
      (pss_cons (ps_set (i := 7) sc_step.nd rfl (.inl rfl) (pe_call G_pick (hr.mono (by omega)) (by rfl) T.g_pick T.F_pick.kp T.b_pick .nil pass0 (pa_cons (xv 0) (pa_cons (pe_callB (cr_lenK K) (by rfl) T.m_len (by decide +kernel) (pa_cons (xv 5) pa_nil)) pa_nil))))
      (pss_cons (ps_set (i := 8) sc_step.nd rfl (.inl rfl) (pe_ix (ix_k K) (pe_lst (pa_cons (pe_call G_pick (hr.mono (by omega)) (by rfl) T.g_pick T.F_pick.kp T.b_pick .nil pass0 (pa_cons (xv 0) (pa_cons pe_int pa_nil))) (pa_cons (pe_op op_powY pe_int pe_int) (pa_cons pe_int (pa_cons pe_int pa_nil))))) (pe_call G_pick (hr.mono (by omega)) (by rfl) T.g_pick T.F_pick.kp T.b_pick .nil pass0 (pa_cons (xv 0) (pa_cons pe_int pa_nil))) (fun _ _ => rfl)))
      (pss_cons (ps_asg (xv 8) (pg_or (pg_sub (xv 1) (pe_ix (ix_k K) (xv 5) (xv 7) (fun _ _ => rfl)) (set_own G_Known_setitem T.sp_Known_setitem.2.2 T.sp_Known_setitem.1 T.sp_Known_setitem.2.1 T.b_Known_setitem passL (hr.mono (by omega)))) (pg_sub (xv 1) (pe_ix (ix_k K) (xv 5) (xv 7) (fun _ _ => rfl)) (set_own G_Things_setitem T.sp_Things_setitem.2.2 T.sp_Things_setitem.1 T.sp_Things_setitem.2.1 T.b_Things_setitem passL (hr.mono (by omega))))))
      (pss_cons (ps_set (i := 9) sc_step.nd rfl (.inl rfl) (pe_ix (ix_k K) (xv 2) pe_int (fun _ _ => rfl)))
      (pss_one (ps_dput (hu_of hr) (xv 9) (pe_ix (ix_k K) (pe_call G_known_by (hr.mono (by omega)) (by rfl) T.g_known_by T.F_known_by.kp T.b_known_by .nil pass0 (pa_cons (pe_ix (ix_k K) (xv 2) pe_int (fun _ _ => rfl)) (pa_cons (xv 5) pa_nil))) (xv 7) (fun _ _ => rfl)) (xv 8) rfl))))))
      (pss_cons (ps_setLc (i := 11) (own := [("_law_item", 10)]) (by rfl) sc_step.nd rfl rfl (sw_true rfl rfl rfl (by decide +kernel)) (pi_range1 (by rfl) T.m_range (pa_cons pe_int pa_nil)) (blkOk_by (N := ["_law_bag_here", "_law_box", "_law_model", "_law_rows", "_law_way", "_law_row_here", "_law_shown", "_law_at", "_law_number_here", "_law_numbers", "_law_item", "_law_missing"]) (sc := defScope s_step) (by decide +kernel)) (fun _ _ _ _ _ => (pg_name (i := 10) sc_step.nd rfl (.inl rfl))) (fun _ _ _ _ _ => (pts_one (xt_cmp (notin_seqK K) (xv 10) (xv 5) (by rfl)))) (fun _ _ _ _ _ => (xv 10)))
      (pss_cons (ps_set (i := 10) sc_step.nd rfl (.inl rfl) (pe_ix (ix_k K) (xv 11) (pe_call G_pick (hr.mono (by omega)) (by rfl) T.g_pick T.F_pick.kp T.b_pick .nil pass0 (pa_cons (xv 0) (pa_cons (pe_callB (cr_lenK K) (by rfl) T.m_len (by decide +kernel) (pa_cons (xv 11) pa_nil)) pa_nil))) (fun _ _ => rfl)))
      (pss_one (ps_ret (xe_and (pe_call G_not_read (hr.mono (by omega)) (by rfl) T.g_not_read T.F_not_read.kp T.b_not_read .nil pass0 (pa_cons (xv 1) (pa_cons (xv 10) pa_nil))) (pe_one (pe_call G_not_set (hr.mono (by omega)) (by rfl) T.g_not_set T.F_not_set.kp T.b_not_set .nil pass0 (pa_cons (xv 1) (pa_cons (xv 10) pa_nil))))))))))))
      (pss_one (ps_ret pe_bl))))), ?_⟩
    refine ⟨G, _, b, o, 5, rfl, S, B, by decide, by decide, fun w1 o1 H1 w10 w11 B1 S1 => ?_⟩
    cases bx with
    | kn x dx r p d L e kv v f n num kvs kve =>
      obtain ⟨ko, hf, hh0⟩ := ok
      have l5 := ko.ok.len
      have hL := S1.at (show (L, HO.lst [v, .ref r, .ref e]) ∈ _ by simp [Bx.cells])
      refine ⟨_, _, .inl (SqL.of hL), rfl, fun _ => ?_, fun _ => ?_⟩
      · -- another row is shown
        refine ⟨_, .inr (hm.same S1.1).sq, G, _, b, o1, _, rfl, S1, B1, by omega, by omega, fun r2 o2 H2 r20 r21 B2 S2 => ?_⟩
        obtain ⟨v2, hv2, _⟩ := atI_in r20 r21
        obtain ⟨⟨q2, n2⟩, hx2, rfl, hr2, ro2⟩ := prd_get pu (atN r20 hv2)
        refine ⟨_, _, .inr (hm.same S2.1).sq, hv2, ?_⟩
        have S3 := p_box S2
        refine .inl ⟨x, dx, _, rfl, S3.hd, rfl, G, _, x, dx, kv, r, p, d, q2, kvs, f, n, num, n2, rfl, S3, ko, hr2, ro2, fun p' d' kvs' G4 H4 s4 ko4 S4 => ?_⟩
        have S5 := p_mod S4
        refine ⟨G4, _, L, e, q2, _, n2, rfl, hr2.same s4, ro2, .inl ⟨v, f, ids f n, num, kve, S5, hf.same s4, hh0, fun e' kve' G6 H6 s6 hh6 S6 => ?_⟩⟩
        exact q o2 (.kn x dx q2 p' d' L e' kv v f n2 (shown (ids f n) num (ids f n2)) kvs' kve') G6 H6 (s4.trans s6) rfl rfl ⟨ko4.same s6, (hf.same s4).same s6, hh6⟩ (B2.same (s4.trans s6)) (p_back S6)
      · have FR := (ko.row.same S1.1).tu.sq (K := K)
        refine ⟨fun _ => ⟨_, .inr (.inl ⟨_, FR, rfl⟩), fun ne => ?_, fun _ => ?_⟩, fun _ => ⟨ff, fun _ => ?_⟩⟩
        · have n0 : 0 < n.length := by
            cases n with
            | nil => cases ne
            | cons _ _ => simp
          refine ⟨_, .inr FR, G, _, b, o1, _, rfl, S1, B1, by rw [List.length_map]; omega, by rw [List.length_map]; omega, fun r2 o2 H2 r20 r21 B2 S2 => ?_⟩
          rw [List.length_map] at r21
          refine ⟨G, _, b, o2, 1000, rfl, S2, B2, by decide, by decide, fun r3 o3 H3 r30 r31 B3 S3 => ⟨⟨by decide, by decide, by decide⟩, fun big _ => ⟨sz, fun l4 nl4 => ?_⟩⟩⟩
          obtain ⟨G4, s4, S4, h4⟩ := Sep.mk (o := .lst [.int r3, .int big, .int 0, .int 1]) S3 nl4
          refine ⟨G4, _, b, o3, 4, rfl, S4, B3.same s4, by decide, by decide, fun r5 o5 H5 r50 r51 B5 S5 => ?_⟩
          obtain ⟨v5, hv5, hm5⟩ := atI_in (xs := [V.int r3, .int big, .int 0, .int 1]) r50 r51
          obtain ⟨nv, rfl⟩ : ∃ nv : Int, v5 = .int nv := by
            simp only [List.mem_cons, List.not_mem_nil, or_false] at hm5
            rcases hm5 with rfl | rfl | rfl | rfl <;> exact ⟨_, rfl⟩
          refine ⟨_, _, .inl (SqL.of (S5.st h4)), hv5, ?_⟩
          obtain ⟨j, rfl⟩ := Int.eq_ofNat_of_zero_le r20
          have jl : j < n.length := by omega
          have hj := getD_some jl
          have lo := ko.ok.lo _ (List.mem_of_getElem? hj)
          have S6 := p_box S5
          refine .inl ⟨_, _, .inr ((ko.row.same s4).same S5.1).tu.sq, at_int jl, x, dx, kF kv r p d, rfl, S6.hd, G4, _, x, dx, kv, r, p, d, kvs, f, n, num, _, nv, rfl, S6, ko.same s4, lg lo.1 lo.2, fun j' kvs' H7 hj' ko7 S7 => ?_, fun no => absurd (List.mem_of_getElem? hj) no⟩
          have ej : j' = j := (nodup_int ko.ok.nd hj).mp hj'
          subst ej
          have S8 := p_x2 S7
          have hL8 := S8.at (show (L, HO.lst [v, .ref r, .ref e]) ∈ _ by simp)
          refine ⟨_, _, .inl (SqL.of hL8), rfl, _, _, .inl (SqL.of hL8), rfl, G4, _, v, r, n, rfl, S8, ko.row.same s4, ko.ok, .inr ⟨f, hf.same s4, fun D ws G9 H9 s9 S9 hD pr => ?_⟩⟩
          have wl := prd_len pr
          rw [ids_len] at wl
          have hw := List.getElem?_eq_getElem (show j' < ws.length by omega)
          obtain ⟨c, hc, a, ea, ha⟩ := prd_get pr hw
          rw [ea] at hw
          have nl := hh0.num
          rw [ids_len] at nl
          have hnum : num[j']? = some (num.getD j' 0) := getD_some (by omega)
          have hv : valV kve (kk c) = some (.int (num.getD j' 0)) := by rw [hh0.at_, look_at (ids_nodup f n) hc hnum]; rfl
          have kl := hh0.len
          rw [ids_len] at kl
          have Sa := p_e S9
          refine ⟨_, _, .inl (SqL.of (S9.st hD)), atI_nat hw, e, _, rfl, DPut.t (k := kk c) Sa.hd (S9.st ha) (smallL (by omega)), ?_⟩
          exact q o5 (.kn x dx r p d L e kv v f n (num.set j' nv) kvs' _) G9 _ (s4.trans s9) rfl rfl ⟨ko7.same s9, (hf.same s4).same s9, hh0.set kk_inj (ids_nodup f n) hc (putK_same hv)⟩ (B5.same s9) (p_e2 Sa.set)
        all_goals
          refine ⟨10, rfl, by decide, by decide, fun D nD => lc_range (lo := 0) (n := (10 : Int).toNat) (fun i H' => Sep G ((D, .lst (((dig.take i).filter fun x => !decide (x ∈ n)).map V.int)) :: (b, o1) :: (Bx.cells T.C_Known T.C_Things (.kn x dx r p d L e kv v f n num kvs kve) ++ M)) H') (S1.new nD) (fun i H' hi p' => ?_) (fun H2 S2 => ?_)⟩
          · have fl : ((dig.take i).filter fun x => !decide (x ∈ n)).length ≤ 10 := Nat.le_trans (List.length_filter_le _ _) (by rw [List.length_take]; exact Nat.min_le_right _ _)
            rw [missing_step hi, List.map_append]
            refine ⟨rfl, r, _, rfl, .inr (ko.row.same p'.1).tu.sq, rfl, ints_flat _, ?_⟩
            rw [show (if true = true then !inV (V.int ((0 : Int) + (i : Nat))) (n.map V.int) else inV (V.int ((0 : Int) + (i : Nat))) (n.map V.int)) = !decide (((0 : Int) + (i : Nat)) ∈ n) by rw [if_pos rfl, inV_int]]
            refine tst (fun e1 => ?_) (fun e1 => ?_)
            · rw [if_pos e1]
              exact ⟨_, p'.hd, by rw [List.length_map]; exact smallL (by omega), p'.set⟩
            · rw [if_neg (by rw [e1]; exact Bool.false_ne_true), List.map_nil, List.append_nil]
              exact p'
          · have S2 : Sep G ((D, .lst ((spare n).map V.int)) :: (b, o1) :: (Bx.cells T.C_Known T.C_Things (.kn x dx r p d L e kv v f n num kvs kve) ++ M)) H2 := S2
            have sp0 := spare_pos l5
            have sp1 : (spare n).length ≤ 10 := List.length_filter_le _ _
            have S3 := S2.frz
            have s3 := S2.frzS
            have hD : (upd G D (.lst ((spare n).map V.int))) D = some (.lst ((spare n).map V.int)) := upd_same
            generalize upd G D (.lst ((spare n).map V.int)) = G3 at *
            refine ⟨_, .inl (SqL.of (S3.st hD)), G3, _, b, o1, _, rfl, S3, B1.same s3, by rw [List.length_map]; omega, by rw [List.length_map]; omega, fun r4 o4 H4 r40 r41 B4 S4 => ?_⟩
            obtain ⟨v4, hv4, hm4⟩ := atI_in r40 r41
            obtain ⟨it, hit, rfl⟩ := List.mem_map.mp hm4
            obtain ⟨i1, i2, i3⟩ := spare_mem hit
            refine ⟨_, _, .inl (SqL.of (S4.st hD)), hv4, ?_⟩
            have ok3 : Bx.ok G3 T.C_Key (.kn x dx r p d L e kv v f n num kvs kve) := ⟨ko.same s3, hf.same s3, hh0⟩
            refine ⟨G3, (b, o4) :: M, .kn x dx r p d L e kv v f n num kvs kve, it, rfl, p_cells S4, ok3, i1, i2, i3, fun G5 H5 s5 S5 => ⟨fun _ => ?_, tt⟩⟩
            exact ⟨G5, (b, o4) :: M, .kn x dx r p d L e kv v f n num kvs kve, it, rfl, S5, ok3.same s5, i1, i2, i3, fun G6 H6 s6 S6 => q o4 (.kn x dx r p d L e kv v f n num kvs kve) G6 H6 (s3.trans (s5.trans s6)) rfl rfl (ok3.same (s5.trans s6)) (B4.same (s5.trans s6)) (p_cells2 S6)⟩
    | th x dx r d L e n num kvs kve =>
      obtain ⟨ko, hh0⟩ := ok
      have l5 := ko.ok.len
      have hL := S1.at (show (L, HO.lst [.non, .ref r, .ref e]) ∈ _ by simp [Bx.cells])
      refine ⟨_, _, .inl (SqL.of hL), rfl, fun _ => ?_, fun _ => ?_⟩
      · -- another row is shown
        refine ⟨_, .inr (hm.same S1.1).sq, G, _, b, o1, _, rfl, S1, B1, by omega, by omega, fun r2 o2 H2 r20 r21 B2 S2 => ?_⟩
        obtain ⟨v2, hv2, _⟩ := atI_in r20 r21
        obtain ⟨⟨q2, n2⟩, hx2, rfl, hr2, ro2⟩ := prd_get pu (atN r20 hv2)
        refine ⟨_, _, .inr (hm.same S2.1).sq, hv2, ?_⟩
        have S3 := p_box S2
        refine .inr ⟨x, dx, _, rfl, S3.hd, rfl, G, _, x, dx, r, d, q2, kvs, n, num, n2, rfl, S3, ko, hr2, ro2, fun d' kvs' G4 H4 s4 ko4 S4 => ?_⟩
        have S5 := p_mod S4
        refine ⟨G4, _, L, e, q2, _, n2, rfl, hr2.same s4, ro2, .inr ⟨n, num, kve, S5, hh0, fun e' kve' G6 H6 s6 hh6 S6 => ?_⟩⟩
        exact q o2 (.th x dx q2 d' L e' n2 (shown n num n2) kvs' kve') G6 H6 (s4.trans s6) rfl rfl ⟨ko4.same s6, hh6⟩ (B2.same (s4.trans s6)) (p_back S6)
      · have FR := (ko.row.same S1.1).tu.sq (K := K)
        refine ⟨fun _ => ⟨_, .inr (.inl ⟨_, FR, rfl⟩), fun ne => ?_, fun _ => ?_⟩, fun _ => ⟨ff, fun _ => ?_⟩⟩
        · have n0 : 0 < n.length := by
            cases n with
            | nil => cases ne
            | cons _ _ => simp
          refine ⟨_, .inr FR, G, _, b, o1, _, rfl, S1, B1, by rw [List.length_map]; omega, by rw [List.length_map]; omega, fun r2 o2 H2 r20 r21 B2 S2 => ?_⟩
          rw [List.length_map] at r21
          refine ⟨G, _, b, o2, 1000, rfl, S2, B2, by decide, by decide, fun r3 o3 H3 r30 r31 B3 S3 => ⟨⟨by decide, by decide, by decide⟩, fun big _ => ⟨sz, fun l4 nl4 => ?_⟩⟩⟩
          obtain ⟨G4, s4, S4, h4⟩ := Sep.mk (o := .lst [.int r3, .int big, .int 0, .int 1]) S3 nl4
          refine ⟨G4, _, b, o3, 4, rfl, S4, B3.same s4, by decide, by decide, fun r5 o5 H5 r50 r51 B5 S5 => ?_⟩
          obtain ⟨v5, hv5, hm5⟩ := atI_in (xs := [V.int r3, .int big, .int 0, .int 1]) r50 r51
          obtain ⟨nv, rfl⟩ : ∃ nv : Int, v5 = .int nv := by
            simp only [List.mem_cons, List.not_mem_nil, or_false] at hm5
            rcases hm5 with rfl | rfl | rfl | rfl <;> exact ⟨_, rfl⟩
          refine ⟨_, _, .inl (SqL.of (S5.st h4)), hv5, ?_⟩
          obtain ⟨j, rfl⟩ := Int.eq_ofNat_of_zero_le r20
          have jl : j < n.length := by omega
          have hj := getD_some jl
          have lo := ko.ok.lo _ (List.mem_of_getElem? hj)
          have S6 := p_box S5
          refine .inr ⟨_, _, .inr ((ko.row.same s4).same S5.1).tu.sq, at_int jl, x, dx, tF r d, rfl, S6.hd, G4, _, x, dx, r, d, kvs, n, num, _, nv, rfl, S6, ko.same s4, lg lo.1 lo.2, fun j' kvs' H7 hj' ko7 S7 => ?_, fun no => absurd (List.mem_of_getElem? hj) no⟩
          have ej : j' = j := (nodup_int ko.ok.nd hj).mp hj'
          subst ej
          have S8 := p_x2 S7
          have hL8 := S8.at (show (L, HO.lst [.non, .ref r, .ref e]) ∈ _ by simp)
          refine ⟨_, _, .inl (SqL.of hL8), rfl, _, _, .inl (SqL.of hL8), rfl, G4, _, .non, r, n, rfl, S8, ko.row.same s4, ko.ok, .inl ⟨rfl, fun D G9 H9 s9 S9 hD => ?_⟩⟩
          have nl := hh0.num
          have hnum : num[j']? = some (num.getD j' 0) := getD_some (by omega)
          have hv : valV kve (ik (n.getD j' 0)) = some (.int (num.getD j' 0)) := by rw [hh0.at_, look_at ko.ok.nd hj hnum]; rfl
          have kl := hh0.len
          have Sa := p_e S9
          refine ⟨_, _, .inl (SqL.of (S9.st hD)), at_int jl, e, _, rfl, DPut.k (k := ik (n.getD j' 0)) Sa.hd (smallL (by omega)), ?_⟩
          exact q o5 (.th x dx r d L e n (num.set j' nv) kvs' _) G9 _ (s4.trans s9) rfl rfl ⟨ko7.same s9, hh0.set inl_inj ko.ok.nd hj (putK_same hv)⟩ (B5.same s9) (p_e2 Sa.set)
        all_goals
          refine ⟨10, rfl, by decide, by decide, fun D nD => lc_range (lo := 0) (n := (10 : Int).toNat) (fun i H' => Sep G ((D, .lst (((dig.take i).filter fun x => !decide (x ∈ n)).map V.int)) :: (b, o1) :: (Bx.cells T.C_Known T.C_Things (.th x dx r d L e n num kvs kve) ++ M)) H') (S1.new nD) (fun i H' hi p' => ?_) (fun H2 S2 => ?_)⟩
          · have fl : ((dig.take i).filter fun x => !decide (x ∈ n)).length ≤ 10 := Nat.le_trans (List.length_filter_le _ _) (by rw [List.length_take]; exact Nat.min_le_right _ _)
            rw [missing_step hi, List.map_append]
            refine ⟨rfl, r, _, rfl, .inr (ko.row.same p'.1).tu.sq, rfl, ints_flat _, ?_⟩
            rw [show (if true = true then !inV (V.int ((0 : Int) + (i : Nat))) (n.map V.int) else inV (V.int ((0 : Int) + (i : Nat))) (n.map V.int)) = !decide (((0 : Int) + (i : Nat)) ∈ n) by rw [if_pos rfl, inV_int]]
            refine tst (fun e1 => ?_) (fun e1 => ?_)
            · rw [if_pos e1]
              exact ⟨_, p'.hd, by rw [List.length_map]; exact smallL (by omega), p'.set⟩
            · rw [if_neg (by rw [e1]; exact Bool.false_ne_true), List.map_nil, List.append_nil]
              exact p'
          · have S2 : Sep G ((D, .lst ((spare n).map V.int)) :: (b, o1) :: (Bx.cells T.C_Known T.C_Things (.th x dx r d L e n num kvs kve) ++ M)) H2 := S2
            have sp0 := spare_pos l5
            have sp1 : (spare n).length ≤ 10 := List.length_filter_le _ _
            have S3 := S2.frz
            have s3 := S2.frzS
            have hD : (upd G D (.lst ((spare n).map V.int))) D = some (.lst ((spare n).map V.int)) := upd_same
            generalize upd G D (.lst ((spare n).map V.int)) = G3 at *
            refine ⟨_, .inl (SqL.of (S3.st hD)), G3, _, b, o1, _, rfl, S3, B1.same s3, by rw [List.length_map]; omega, by rw [List.length_map]; omega, fun r4 o4 H4 r40 r41 B4 S4 => ?_⟩
            obtain ⟨v4, hv4, hm4⟩ := atI_in r40 r41
            obtain ⟨it, hit, rfl⟩ := List.mem_map.mp hm4
            obtain ⟨i1, i2, i3⟩ := spare_mem hit
            refine ⟨_, _, .inl (SqL.of (S4.st hD)), hv4, ?_⟩
            have ok3 : Bx.ok G3 T.C_Key (.th x dx r d L e n num kvs kve) := ⟨ko.same s3, hh0⟩
            refine ⟨G3, (b, o4) :: M, .th x dx r d L e n num kvs kve, it, rfl, p_cells S4, ok3, i1, i2, i3, fun G5 H5 s5 S5 => ⟨fun _ => ?_, tt⟩⟩
            exact ⟨G5, (b, o4) :: M, .th x dx r d L e n num kvs kve, it, rfl, S5, ok3.same s5, i1, i2, i3, fun G6 H6 s6 S6 => q o4 (.th x dx r d L e n num kvs kve) G6 H6 (s3.trans (s5.trans s6)) rfl rfl (ok3.same (s5.trans s6)) (B4.same (s5.trans s6)) (p_cells2 S6)⟩
end
end K26
set_option Elab.async false
set_option linter.all false
set_option maxRecDepth 100000
set_option maxHeartbeats 4000000
namespace K26
open PySem PySem.Spec PyProof.Rows L2 XL
section
variable {P : Program} {w : World} {K : PySem.W.Frag} {mg : Str → Option Value} {base : Heap}
/-! ### many boxes -/
theorem cells_at {α β : Type} {c : α → List β} {bs : List α} {j : Nat} {bx : α} (h : bs[j]? = some bx) : (bs.flatMap c).Perm (c bx ++ (bs.eraseIdx j).flatMap c) := by
  have e := (take_pre h).1
  have e2 : bs.eraseIdx j = bs.take j ++ bs.drop (j + 1) := List.eraseIdx_eq_take_drop_succ bs j
  rw [e2, List.flatMap_append]
  conv => lhs; rw [e]
  rw [List.flatMap_append, List.flatMap_cons]
  exact List.perm_append_comm_assoc _ _ _
theorem set_at {α : Type} {bs : List α} {j : Nat} {bx : α} (h : j < bs.length) : (bs.set j bx)[j]? = some bx := by rw [List.getElem?_set_self h]
theorem erase_set {α : Type} {bs : List α} {j : Nat} {bx : α} : (bs.set j bx).eraseIdx j = bs.eraseIdx j := by
  rw [List.eraseIdx_eq_take_drop_succ, List.eraseIdx_eq_take_drop_succ, List.take_set_of_le (Nat.le_refl _), List.drop_set_of_lt (Nat.lt_succ_self _)]
theorem map_set_same {α β : Type} {f : α → β} {bs : List α} {j : Nat} {bx bx' : α} (h : bs[j]? = some bx) (e : f bx' = f bx) : (bs.set j bx').map f = bs.map f := by
  apply List.ext_getElem?
  intro i
  rw [List.getElem?_map, List.getElem?_map]
  by_cases ij : j = i
  · subst ij
    rw [List.getElem?_set_self (List.getElem?_eq_some_iff.mp h).1, h, Option.map_some, Option.map_some, e]
  · rw [List.getElem?_set_ne ij]
theorem mem_set_ok {α : Type} {p : α → Prop} {bs : List α} {j : Nat} {bx : α} (h : ∀ b ∈ bs, p b) (hb : p bx) : ∀ b ∈ bs.set j bx, p b := fun b hm => by
  rcases List.mem_or_eq_of_mem_set hm with z | z
  · exact h b z
  · rw [z]; exact hb
/-! ### a box without its model -/
inductive Hx where
  | kn (x dx r p d : Addr) (kv v : V) (f : Fm) (n : List Int) (kvs : List (List Key × V))
  | th (x dx r d : Addr) (n : List Int) (kvs : List (Key × V))
def Hx.cells (Cn Ct : Addr) : Hx → List (Addr × HO)
  | .kn x dx r p d kv v f n kvs => [(x, .ins Cn dx (kF kv r p d)), (d, .dT kvs)]
  | .th x dx r d n kvs => [(x, .ins Ct dx (tF r d)), (d, .dK kvs)]
def Hx.x : Hx → V
  | .kn x _ _ _ _ _ _ _ _ _ => .ref x
  | .th x _ _ _ _ _ => .ref x
def Hx.form : Hx → V
  | .kn _ _ _ _ _ _ v _ _ _ => v
  | .th .. => .non
def Hx.start : Hx → V
  | .kn _ _ r _ _ _ _ _ _ _ => .ref r
  | .th _ _ r _ _ _ => .ref r
def Hx.ok (G : Hp) (Ck : Addr) : Hx → Prop
  | .kn _ _ r p _ kv v f n kvs => KnOk G Ck f n (List.replicate n.length 0) kv r p kvs ∧ FK G v f
  | .th _ _ r _ n kvs => ThOk G n (List.replicate n.length 0) r kvs
theorem Hx.ok.same {G G' : Hp} {Ck : Addr} (e : Same G G') : ∀ {b : Hx}, b.ok G Ck → b.ok G' Ck
  | .kn .., h => ⟨h.1.same e, h.2.same e⟩
  | .th .., h => ThOk.same e h
theorem shown_nil {α : Type} [DecidableEq α] (c : List α) : shown ([] : List α) [] c = List.replicate c.length 0 := by
  induction c with
  | nil => rfl
  | cons a r ih =>
    show (look [] [] a).getD 0 :: shown [] [] r = _
    rw [ih]
    rfl
section
variable {G H : Hp} {l e m x d : Addr × HO} {B R : List (Addr × HO)}
theorem q_in (S : Sep G (l :: e :: m :: R) H) : Sep G (m :: l :: e :: R) H := S.perm (List.perm_append_comm_assoc [l, e] [m] R)
theorem q_out (S : Sep G (m :: l :: e :: R) H) : Sep G (l :: e :: m :: R) H := S.perm (List.perm_append_comm_assoc [m] [l, e] R)
theorem q_fill {b : Addr × HO} (S : Sep G (l :: e :: m :: b :: (B ++ (x :: d :: R))) H) : Sep G (m :: b :: ((B ++ [x, d, l, e]) ++ R)) H := by
  have p := List.perm_append_comm_assoc [l, e] (m :: b :: (B ++ [x, d])) R
  refine Sep.perm (M := [l, e] ++ ((m :: b :: (B ++ [x, d])) ++ R)) ?_ (p.trans ?_)
  · simpa using S
  · simp
end
theorem flat_snoc {α β : Type} {c : α → List β} (bs : List α) (b : α) : (bs ++ [b]).flatMap c = bs.flatMap c ++ c b := by
  rw [List.flatMap_append, List.flatMap_singleton]
/-- the models, one after another -/
def ModInv (Cn Ct Ck : Addr) (hs : List Hx) (Lm b : Addr) (o : HO) (G0 : Hp) (i : Nat) (H' : Hp) : Prop := ∃ (bs : List Bx) (G' : Hp), Same G0 G' ∧ Sep G' ((Lm, .lst (bs.map fun bx => .ref bx.l)) :: (b, o) :: (bs.flatMap (Bx.cells Cn Ct) ++ (hs.drop i).flatMap (Hx.cells Cn Ct))) H' ∧ (∀ bx ∈ bs, bx.ok G' Ck) ∧ (bs.map fun bx => V.ref bx.x) = (hs.take i).map Hx.x
end
end K26
set_option Elab.async false
set_option linter.all false
set_option maxRecDepth 100000
set_option maxHeartbeats 4000000
namespace K26
open PySem PySem.Spec PyProof.Rows L2 XL
section
variable {P : Program} {w : World} {K : PySem.W.Frag} {mg : Str → Option Value} {base : Heap}
theorem four {α β : Type} {R : α → β → Prop} {ws : List α} {ys : List β} (h : Paired R ws ys) (l : ys.length = 4) : ∃ (w0 w1 w2 w3 : α) (y0 y1 y2 y3 : β), ws = [w0, w1, w2, w3] ∧ ys = [y0, y1, y2, y3] ∧ R w0 y0 ∧ R w1 y1 ∧ R w2 y2 ∧ R w3 y3 := by
  match ys, l, ws, h with
  | [_, _, _, _], _, _, .cons r0 (.cons r1 (.cons r2 (.cons r3 .nil))) => exact ⟨_, _, _, _, _, _, _, _, rfl, rfl, r0, r1, r2, r3⟩
theorem perm_boxes {α : Type} (a0 a1 b0 b1 c0 c1 d0 d1 z : α) : [d0, d1, c0, c1, b0, b1, a0, a1, z].Perm (z :: [a0, a1, b0, b1, c0, c1, d0, d1]) := by
  refine (List.perm_append_comm (l₁ := [d0, d1, c0, c1, b0, b1, a0, a1]) (l₂ := [z])).trans (List.Perm.cons _ ?_)
  refine (List.perm_append_comm (l₁ := [d0, d1, c0, c1]) (l₂ := [b0, b1, a0, a1])).trans ?_
  exact List.Perm.append (List.perm_append_comm (l₁ := [b0, b1]) (l₂ := [a0, a1])) (List.perm_append_comm (l₁ := [d0, d1]) (l₂ := [c0, c1]))
theorem ok_law (T : Top K mg w) (G_bag : FnOk P w K mg base CX0 10 T.a_bag T.d_bag ["_law_script"] (spBag K)) (G_pick : FnOk P w K mg base CX0 3 T.a_pick T.d_pick ["_law_bag_here", "_law_many"] spPick)
    (G_any_key : FnOk P w K mg base CX0 10 T.a_any_key T.d_any_key ["_law_bag_here"] spAnyKey) (G_rows_shown : FnOk P w K mg base CX0 5 T.a_rows_shown T.d_rows_shown ["_law_bag_here"] (spShown K))
    (G_Key_init : FnOk P w K mg base CX0 7 T.a_Key_init T.d_Key_init ["self", "form"] (spKInit T.C_Key)) (G_Known_init : FnOk P w K mg base CX0 9 T.a_Known_init T.d_Known_init ["self", "key", "row"] (spKnInit T.C_Known T.C_Key))
    (G_Things_init : FnOk P w K mg base CX0 8 T.a_Things_init T.d_Things_init ["self", "row"] (spThInit T.C_Things)) (G_shows : FnOk P w K mg base CX0 9 T.a_shows T.d_shows ["_law_model", "_law_row_here"] spShows)
    (G_step : FnOk P w K mg base CX0 11 T.a_step T.d_step ["_law_bag_here", "_law_box", "_law_model", "_law_rows"] (spStep T.C_Known T.C_Things T.C_Key)) (G_agrees : FnOk P w K mg base CX0 11 T.a_agrees T.d_agrees ["_law_box", "_law_model"] (spAgrees T.C_Known T.C_Things T.C_Key)) :
    FnOk P w K mg base CX0 13 T.a_law T.d_law ["_law_script"] (spLaw K) := by
  refine T.F_law.ok sc_law (fun vs H Q E h => ?_) (fun cdv A outer s H vs Q E hr h => ?_)
  · obtain ⟨a, ns, rfl, _⟩ := h
    rfl
  · obtain ⟨a, ns, rfl, ha, hl, q⟩ := h
    refine ⟨_, (pss_cons (ps_set (i := 1) sc_law.nd rfl (.inr rfl) (pe_call G_bag (hr.mono (by omega)) (by rfl) T.g_bag T.F_bag.kp T.b_bag .nil pass0 (pa_cons (xv 0) pa_nil)))
      (pss_cons (ps_set (i := 2) sc_law.nd rfl (.inl rfl) (pe_lst (pa_cons (pe_call G_any_key (hr.mono (by omega)) (by rfl) T.g_any_key T.F_any_key.kp T.b_any_key .nil pass0 (pa_cons (xv 1) pa_nil)) (pa_cons (pe_call G_any_key (hr.mono (by omega)) (by rfl) T.g_any_key T.F_any_key.kp T.b_any_key .nil pass0 (pa_cons (xv 1) pa_nil)) (pa_cons pe_non (pa_cons pe_non pa_nil))))))
      (pss_cons (ps_set (i := 3) sc_law.nd rfl (.inr rfl) (pe_call G_rows_shown (hr.mono (by omega)) (by rfl) T.g_rows_shown T.F_rows_shown.kp T.b_rows_shown .nil pass0 (pa_cons (xv 1) pa_nil)))
      (pss_cons (ps_setLc (i := 4) (own := [("_law_form_here", 10)]) (by rfl) sc_law.nd rfl rfl (sw_true rfl rfl rfl (by decide +kernel)) (pi_listK K (xv 2)) (blkOk_by (N := ["_law_script", "_law_bag_here", "_law_forms", "_law_rows", "_law_starts", "_law_boxes", "_law_models", "_law_which", "_law_step_here", "_law_other", "_law_form_here"]) (sc := defScope s_law) (by decide +kernel)) (fun _ _ _ _ _ => (pg_name (i := 10) sc_law.nd rfl (.inl rfl))) (fun _ _ _ _ _ => pts_nil) (fun _ _ _ _ _ => (pe_ix (ix_k K) (xv 3) (pe_call G_pick (hr.mono (by omega)) (by rfl) T.g_pick T.F_pick.kp T.b_pick .nil pass0 (pa_cons (xv 1) (pa_cons (pe_callB (cr_lenK K) (by rfl) T.m_len (by decide +kernel) (pa_cons (xv 3) pa_nil)) pa_nil))) (fun _ _ => rfl))))
      (pss_cons (ps_set (i := 5) sc_law.nd rfl (.inl rfl) (pe_lst (pa_cons (pe_make T.mk_Known G_Known_init (hr.mono (by omega)) (by rfl) T.g_Known T.b_Known_init .nil pass0 (pa_cons (pe_make T.mk_Key G_Key_init (hr.mono (by omega)) (by rfl) T.g_Key T.b_Key_init .nil pass0 (pa_cons (pe_ix (ix_k K) (xv 2) pe_int (fun _ _ => rfl)) pa_nil)) (pa_cons (pe_ix (ix_k K) (xv 4) pe_int (fun _ _ => rfl)) pa_nil))) (pa_cons (pe_make T.mk_Known G_Known_init (hr.mono (by omega)) (by rfl) T.g_Known T.b_Known_init .nil pass0 (pa_cons (pe_make T.mk_Key G_Key_init (hr.mono (by omega)) (by rfl) T.g_Key T.b_Key_init .nil pass0 (pa_cons (pe_ix (ix_k K) (xv 2) pe_int (fun _ _ => rfl)) pa_nil)) (pa_cons (pe_ix (ix_k K) (xv 4) pe_int (fun _ _ => rfl)) pa_nil))) (pa_cons (pe_make T.mk_Things G_Things_init (hr.mono (by omega)) (by rfl) T.g_Things T.b_Things_init .nil pass0 (pa_cons (pe_ix (ix_k K) (xv 4) pe_int (fun _ _ => rfl)) pa_nil)) (pa_cons (pe_make T.mk_Things G_Things_init (hr.mono (by omega)) (by rfl) T.g_Things T.b_Things_init .nil pass0 (pa_cons (pe_ix (ix_k K) (xv 4) pe_int (fun _ _ => rfl)) pa_nil)) pa_nil))))))
      (pss_cons (ps_set (i := 6) sc_law.nd rfl (.inl rfl) (pe_lst pa_nil))
      (pss_cons (ps_for PassesOwn.never rfl (pi_range1 (by rfl) T.m_range (pa_cons pe_int pa_nil)) (pg_name (i := 7) sc_law.nd rfl (.inl rfl))
      (pss_cons (ps_expr (pe_bmK K PySem.F.plainAttrs_list PySem.F.slot_list_append PySem.F.type_list_append mt_append (xv 6) (pa_cons (pe_lst (pa_cons (pe_ix (ix_k K) (xv 2) (xv 7) (fun _ _ => rfl)) (pa_cons (pe_tupF pa_nil) (pa_cons (pe_or pe_dnewK pe_dnewT) pa_nil)))) pa_nil)))
      (pss_one (ps_expr (pe_call G_shows (hr.mono (by omega)) (by rfl) T.g_shows T.F_shows.kp T.b_shows .nil pass0 (pa_cons (pe_ix (ix_k K) (xv 6) (xv 7) (fun _ _ => rfl)) (pa_cons (pe_ix (ix_k K) (xv 4) (xv 7) (fun _ _ => rfl)) pa_nil)))))))
      (pss_cons (ps_for PassesOwn.never rfl (pi_range1 (by rfl) T.m_range (pa_cons (pe_op op_addY pe_int (pe_call G_pick (hr.mono (by omega)) (by rfl) T.g_pick T.F_pick.kp T.b_pick .nil pass0 (pa_cons (xv 1) (pa_cons pe_int pa_nil)))) pa_nil)) (pg_name (i := 8) sc_law.nd rfl (.inl rfl))
      (pss_cons (ps_set (i := 7) sc_law.nd rfl (.inl rfl) (pe_call G_pick (hr.mono (by omega)) (by rfl) T.g_pick T.F_pick.kp T.b_pick .nil pass0 (pa_cons (xv 1) (pa_cons pe_int pa_nil))))
      (pss_cons (xs_if (pt_not (xt_truK K (pe_call G_step (hr.mono (by omega)) (by rfl) T.g_step T.F_step.kp T.b_step .nil pass0 (pa_cons (xv 1) (pa_cons (pe_ix (ix_k K) (xv 5) (xv 7) (fun _ _ => rfl)) (pa_cons (pe_ix (ix_k K) (xv 6) (xv 7) (fun _ _ => rfl)) (pa_cons (xv 3) pa_nil)))))))
      (pss_one (ps_ret pe_bl))
      pss_nil)
      (pss_one (ps_for PassesOwn.never rfl (pi_range1 (by rfl) T.m_range (pa_cons pe_int pa_nil)) (pg_name (i := 9) sc_law.nd rfl (.inl rfl))
      (pss_one (xs_if (pt_not (xt_truK K (pe_call G_agrees (hr.mono (by omega)) (by rfl) T.g_agrees T.F_agrees.kp T.b_agrees .nil pass0 (pa_cons (pe_ix (ix_k K) (xv 5) (xv 9) (fun _ _ => rfl)) (pa_cons (pe_ix (ix_k K) (xv 6) (xv 9) (fun _ _ => rfl)) pa_nil)))))
      (pss_one (ps_ret pe_bl))
      pss_nil)))))))
      (pss_one (ps_ret pe_bl)))))))))), ?_⟩
    refine ⟨H, [], a, ns, rfl, sep0, ha, hl, fun b o1 G1 H1 _ B1 S1 => ?_⟩
    refine ⟨G1, [], b, o1, rfl, S1, B1, fun v1 f1 o2 G2 H2 s2 hf1 ok1 hd1 B2 S2 => ?_⟩
    refine ⟨G2, [], b, o2, rfl, S2, B2, fun v2 f2 o3 G3 H3 s3 hf2 ok2 hd2 B3 S3 => ⟨sz, fun L nL => ?_⟩⟩
    obtain ⟨G4, s4, S4, hL⟩ := Sep.mk (o := .lst [v1, v2, .non, .non]) S3 nL
    have fk1 : FK G4 v1 f1 := ⟨hf1.same' (s3.trans s4), ok1, hd1⟩
    have fk2 : FK G4 v2 f2 := ⟨hf2.same' s4, ok2, hd2⟩
    refine ⟨G4, [], b, o3, rfl, S4, B3.same s4, fun m us xs o5 G5 H5 s5 hm pu ul u1 B5 S5 => ?_⟩
    -- the first rows
    refine ⟨L, rfl, ⟨_, SqL.of (S5.st (s5 _ _ hL))⟩, fun D nD => lc_at (xs := [v1, v2, .non, .non]) (fun i H' => ∃ (o' : HO) (ws : List V) (ys : List (Addr × List Int)), Bag G5 o' ∧ Sep G5 [(D, .lst ws), (b, o')] H' ∧ Paired (RowsAt G5) ws ys ∧ ys.length = i)
      ⟨o5, [], [], B5, S5.new nD, .nil, rfl⟩ (fun i H' p => ?_) (fun _ => rfl) (fun i x H' hx p => ?_) (fun H6 p => ?_)⟩
    · obtain ⟨o', ws, ys, _, S', _⟩ := p
      exact SqL.of (S'.st (s5 _ _ hL))
    · obtain ⟨o', ws, ys, B', S', hw, yl⟩ := p
      have wl := prd_len hw
      have il : i < 4 := (List.getElem?_eq_some_iff.mp hx).1
      refine ⟨_, .inr (hm.same S'.1).tu.sq, G5, _, b, o', _, rfl, S'.sw, B', by omega, by omega, fun r6 o6 H6 r60 r61 B6 S6 => ?_⟩
      obtain ⟨v6, hv6, _⟩ := atI_in r60 r61
      obtain ⟨y, hy, ry⟩ := prd_get pu (atN r60 hv6)
      exact ⟨_, _, .inr (hm.same S6.1).tu.sq, hv6, ws, S6.sw.hd, smallL (by omega), o6, ws ++ [v6], ys ++ [y], B6, S6.sw.set, hw.snoc ry, by rw [List.length_append, yl]; rfl⟩
    obtain ⟨o6, ws, ys, B6, S6', hw, yl⟩ := p
    have S6 := S6'.frz
    have s6 := S6'.frzS
    have hD : (upd G5 D (.lst ws)) D = some (.lst ws) := upd_same
    generalize upd G5 D (.lst ws) = G6 at *
    have s46 := s5.trans s6
    have hw := prd_imp (fun _ _ => RowsAt.same s6) hw
    obtain ⟨w0, w1, w2, w3, y0, y1, y2, y3, rfl, rfl, r0, r1, r2, r3⟩ := four hw yl
    obtain ⟨rfl, t0, ro0⟩ := r0
    obtain ⟨rfl, t1, ro1⟩ := r1
    obtain ⟨rfl, t2, ro2⟩ := r2
    obtain ⟨rfl, t3, ro3⟩ := r3
    have hL := s46 _ _ hL
    have fk1 := fk1.same s46
    have fk2 := fk2.same s46
    have B6 := B6.same s6
    -- the first box
    refine ⟨_, _, .inl (SqL.of (S6.st hL)), rfl, fun kx kdx nkx nkdx kne => ?_⟩
    refine ⟨G6, _, kx, kdx, v1, f1, rfl, S6.new2 nkx nkdx kne, fk1.1, fk1.2.1, fk1.2.2, fun G7 H7 s7 S7' => ⟨rfl, ?_⟩⟩
    have S7 := S7'.frz.drop
    have s7 := s7.trans S7'.frzS
    have kk7 : KeyAt T.C_Key (upd G7 kx (.ins T.C_Key kdx [("form", v1)])) (.ref kx) f1 := ⟨kx, kdx, v1, rfl, upd_same, fk1.1.same' s7, fk1.2.1, fk1.2.2⟩
    generalize upd G7 kx (.ins T.C_Key kdx [("form", v1)]) = G7 at *
    refine ⟨_, _, .inl (SqL.of (S7.st (s7 _ _ hD))), rfl, fun x0 dx0 nx0 ndx0 ne0 => ?_⟩
    refine ⟨G7, _, x0, dx0, .ref kx, y0.1, f1, y0.2, rfl, S7.new2 nx0 ndx0 ne0, kk7, t0.same s7, ro0, fun p0 d0 kvs0 G8 H8 s8 ko0 S8 => ⟨rfl, ?_⟩⟩
    have S8 := S8.no3
    have s68 := s7.trans s8
    -- the second box
    refine ⟨_, _, .inl (SqL.of (S8.st (s68 _ _ hL))), rfl, fun kx2 kdx2 nkx2 nkdx2 kne2 => ?_⟩
    have fk28 := fk2.same s68
    refine ⟨G8, _, kx2, kdx2, v2, f2, rfl, S8.new2 nkx2 nkdx2 kne2, fk28.1, fk28.2.1, fk28.2.2, fun G9 H9 s9 S9' => ⟨rfl, ?_⟩⟩
    have S9 := S9'.frz.drop
    have s9 := s9.trans S9'.frzS
    have kk9 : KeyAt T.C_Key (upd G9 kx2 (.ins T.C_Key kdx2 [("form", v2)])) (.ref kx2) f2 := ⟨kx2, kdx2, v2, rfl, upd_same, fk28.1.same' s9, fk28.2.1, fk28.2.2⟩
    generalize upd G9 kx2 (.ins T.C_Key kdx2 [("form", v2)]) = G9 at *
    have s69 := s68.trans s9
    refine ⟨_, _, .inl (SqL.of (S9.st (s69 _ _ hD))), rfl, fun x1 dx1 nx1 ndx1 ne1 => ?_⟩
    refine ⟨G9, _, x1, dx1, .ref kx2, y1.1, f2, y1.2, rfl, S9.new2 nx1 ndx1 ne1, kk9, t1.same s69, ro1, fun p1 d1 kvs1 Ga Ha sa ko1 Sa => ⟨rfl, ?_⟩⟩
    have Sa := Sa.no3
    have s6a := s69.trans sa
    -- the third and the fourth
    refine ⟨_, _, .inl (SqL.of (Sa.st (s6a _ _ hD))), rfl, fun x2 dx2 nx2 ndx2 ne2 => ?_⟩
    refine ⟨Ga, _, x2, dx2, y2.1, y2.2, rfl, Sa.new2 nx2 ndx2 ne2, t2.same s6a, ro2, fun d2 kvs2 Gb Hb sb ko2 Sb => ⟨rfl, ?_⟩⟩
    have Sb := Sb.no3
    have s6b := s6a.trans sb
    refine ⟨_, _, .inl (SqL.of (Sb.st (s6b _ _ hD))), rfl, fun x3 dx3 nx3 ndx3 ne3 => ?_⟩
    refine ⟨Gb, _, x3, dx3, y3.1, y3.2, rfl, Sb.new2 nx3 ndx3 ne3, t3.same s6b, ro3, fun d3 kvs3 Gc Hc sc ko3 Sc => ⟨rfl, sz, fun Bl nBl => ?_⟩⟩
    have Sc := Sc.no3
    obtain ⟨Gd, sd, Sd, hB⟩ := Sep.mk (o := .lst [.ref x0, .ref x1, .ref x2, .ref x3]) Sc nBl
    have s6d := s6b.trans (sc.trans sd)
    have scd := sc.trans sd
    refine ⟨sz, fun Lm nLm => ?_⟩
    obtain ⟨hs, ehs⟩ : ∃ hs : List Hx, hs = [.kn x0 dx0 y0.1 p0 d0 (.ref kx) v1 f1 y0.2 kvs0, .kn x1 dx1 y1.1 p1 d1 (.ref kx2) v2 f2 y1.2 kvs1, .th x2 dx2 y2.1 d2 y2.2 kvs2, .th x3 dx3 y3.1 d3 y3.2 kvs3] := ⟨_, rfl⟩
    have hsok : ∀ h ∈ hs, h.ok Gd T.C_Key := by
      rw [ehs]
      intro h hm'
      simp only [List.mem_cons, List.not_mem_nil, or_false] at hm'
      rcases hm' with rfl | rfl | rfl | rfl
      · exact ⟨ko0.same (s9.trans (sa.trans (sb.trans scd))), fk1.same s6d⟩
      · exact ⟨ko1.same (sb.trans scd), fk2.same s6d⟩
      · exact ThOk.same scd ko2
      · exact ThOk.same sd ko3
    have hform : hs.map Hx.form = [v1, v2, .non, .non] := by rw [ehs]; rfl
    have hstart : hs.map Hx.start = [.ref y0.1, .ref y1.1, .ref y2.1, .ref y3.1] := by rw [ehs]; rfl
    have hxs : hs.map Hx.x = [.ref x0, .ref x1, .ref x2, .ref x3] := by rw [ehs]; rfl
    have hlen : hs.length = 4 := by rw [ehs]; rfl
    have hLd := s6d _ _ hL
    have hDd := s6d _ _ hD
    rw [← hform] at hLd
    rw [← hstart] at hDd
    rw [← hxs] at hB
    have Se := Sd.new (o := .lst []) nLm
    have inv0 : ModInv T.C_Known T.C_Things T.C_Key hs Lm b o6 Gd 0 _ := ⟨[], Gd, Same.refl _, by
      rw [ehs]
      exact Se.perm (List.Perm.cons _ (perm_boxes _ _ _ _ _ _ _ _ _)), fun bx hb => absurd hb (by simp), rfl⟩
    refine ⟨4, rfl, by decide, by decide, for_range (lo := 0) (n := 4) (fun i σ H' => ∃ (y7 y8 y9 : Option V), σ = [some (.ref a), some (.ref b), some (.ref L), some (.ref m), some (.ref D), some (.ref Bl), some (.ref Lm), y7, y8, y9, none] ∧ ModInv T.C_Known T.C_Things T.C_Key hs Lm b o6 Gd i H')
      ⟨_, _, _, rfl, inv0⟩ (fun i σ H' hi h => ?_) (fun σ Hm h => ?_)⟩
    · obtain ⟨y7, y8, y9, rfl, bs, Ge, se, Sf, okb, hbx⟩ := h
      rw [Int.zero_add]
      have bl : bs.length = i := by
        have z := congrArg List.length hbx
        rw [List.length_map, List.length_map, List.length_take] at z
        omega
      have hi' : i < hs.length := by omega
      have dr := List.drop_eq_getElem_cons hi'
      have hfi : (hs.map Hx.form)[i]? = some hs[i].form := by rw [List.getElem?_map, List.getElem?_eq_getElem hi']; rfl
      have hsi : (hs.map Hx.start)[i]? = some hs[i].start := by rw [List.getElem?_map, List.getElem?_eq_getElem hi']; rfl
      have hok := (hsok hs[i] (List.getElem_mem hi')).same se
      have tk : hs.take (i + 1) = hs.take i ++ [hs[i]] := XL.take_snoc (List.getElem?_eq_getElem hi')
      rw [dr, List.flatMap_cons] at Sf
      generalize hs[i] = h at *
      refine ⟨.inl ⟨rfl, _, SqL.of Sf.hd⟩, _, _, .inl (SqL.of (Sf.st (se _ _ hLd))), atI_nat hfi, sz, fun e0 ob ne0 hob => ?_⟩
      have S1 := Sf.newG (o := .frz ob (.tup [])) ne0
      have s1 := Sf.grow (o := .frz ob (.tup [])) ne0
      have s01 := se.trans s1
      have at_l : ∀ L1 : Addr, ((bs.map fun bx => V.ref bx.l) ++ [V.ref L1])[i]? = some (.ref L1) := fun L1 => by
        rw [List.getElem?_append_right (by rw [List.length_map]; omega), List.length_map, bl, Nat.sub_self]
        rfl
      cases h with
      | kn x dx r p d kv v f n kvs =>
        obtain ⟨ko, hf⟩ := hok
        refine .inr fun dd ndd => ⟨sz, fun L1 nL1 => ?_⟩
        have S2 := (S1.new (o := .dT []) ndd).new (o := .lst [v, .ref e0, .ref dd]) nL1
        have S4 := q_in S2
        refine ⟨Lm, _, _, rfl, rfl, S4.hd, smallL (by simp; omega), ?_⟩
        have S5 := q_out (S4.set (o' := .lst ((bs.map fun bx => V.ref bx.l) ++ [V.ref L1])))
        refine ⟨_, _, .inl (SqL.of (S5.at (show (Lm, HO.lst ((bs.map fun bx => V.ref bx.l) ++ [V.ref L1])) ∈ _ by simp))), atI_nat (at_l L1), _, _, .inl (SqL.of (S5.st (s01 _ _ hDd))), atI_nat hsi, _, _, L1, dd, r, .ref e0, n, rfl, ko.row.same s1, ko.ok, .inl ⟨v, f, [], [], [], S5, hf.same s1, Hold.nil, fun e' kve' G6 H6 s6 hh6 S6 => ?_⟩⟩
        rw [shown_nil, ids_len] at hh6
        refine ⟨_, _, _, rfl, bs ++ [.kn x dx r p d L1 e' kv v f n (List.replicate n.length 0) kvs kve'], G6, s01.trans s6, ?_, fun bx hb => ?_, ?_⟩
        · rw [List.map_append, flat_snoc]
          exact q_fill S6
        · rcases List.mem_append.mp hb with z | z
          · exact (okb bx z).same (s1.trans s6)
          · rw [List.mem_singleton.mp z]
            exact ⟨ko.same (s1.trans s6), hf.same (s1.trans s6), hh6⟩
        · rw [List.map_append, tk, List.map_append, hbx]
          rfl
      | th x dx r d n kvs =>
        have ko : ThOk Ge n (List.replicate n.length 0) r kvs := hok
        refine .inl fun dd ndd => ⟨sz, fun L1 nL1 => ?_⟩
        have S2 := (S1.new (o := .dK []) ndd).new (o := .lst [.non, .ref e0, .ref dd]) nL1
        have S4 := q_in S2
        refine ⟨Lm, _, _, rfl, rfl, S4.hd, smallL (by simp; omega), ?_⟩
        have S5 := q_out (S4.set (o' := .lst ((bs.map fun bx => V.ref bx.l) ++ [V.ref L1])))
        refine ⟨_, _, .inl (SqL.of (S5.at (show (Lm, HO.lst ((bs.map fun bx => V.ref bx.l) ++ [V.ref L1])) ∈ _ by simp))), atI_nat (at_l L1), _, _, .inl (SqL.of (S5.st (s01 _ _ hDd))), atI_nat hsi, _, _, L1, dd, r, .ref e0, n, rfl, ko.row.same s1, ko.ok, .inr ⟨[], [], [], S5, Hold.nil, fun e' kve' G6 H6 s6 hh6 S6 => ?_⟩⟩
        rw [shown_nil] at hh6
        refine ⟨_, _, _, rfl, bs ++ [.th x dx r d L1 e' n (List.replicate n.length 0) kvs kve'], G6, s01.trans s6, ?_, fun bx hb => ?_, ?_⟩
        · rw [List.map_append, flat_snoc]
          exact q_fill S6
        · rcases List.mem_append.mp hb with z | z
          · exact (okb bx z).same (s1.trans s6)
          · rw [List.mem_singleton.mp z]
            exact ⟨ko.same (s1.trans s6), hh6⟩
        · rw [List.map_append, tk, List.map_append, hbx]
          rfl
    · obtain ⟨y7, y8, y9, rfl, bs, Ge, se, Sf', okb, hbx⟩ := h
      rw [List.drop_eq_nil_of_le (by omega), List.flatMap_nil, List.append_nil] at Sf'
      rw [List.take_of_length_le (by omega)] at hbx
      have Sf := Sf'.frz
      have sf := Sf'.frzS
      have hLm : (upd Ge Lm (.lst (bs.map fun bx => V.ref bx.l))) Lm = some (.lst (bs.map fun bx => V.ref bx.l)) := upd_same
      generalize upd Ge Lm (.lst (bs.map fun bx => V.ref bx.l)) = Gf at *
      have s6f := s6d.trans (se.trans sf)
      have bl : bs.length = 4 := by
        have z := congrArg List.length hbx
        rw [List.length_map, List.length_map] at z
        omega
      have hBf := (se.trans sf) _ _ hB
      rw [← hbx] at hBf
      have hmf := hm.same (s6.trans s6f)
      have puf := prd_imp (fun _ _ => RowsAt.same (s6.trans s6f)) pu
      refine ⟨Gf, _, b, o6, 28, rfl, Sf, B6.same s6f, by decide, by decide, fun r7 o7 H7 r70 r71 B7 S7 => ⟨_, rfl, by omega, by omega, ?_⟩⟩
      refine for_range (lo := 0) (n := (8 + r7).toNat) (fun i σ H' => ∃ (y7 y8 y9 : Option V) (o' : HO) (bs' : List Bx) (G' : Hp), σ = [some (.ref a), some (.ref b), some (.ref L), some (.ref m), some (.ref D), some (.ref Bl), some (.ref Lm), y7, y8, y9, none] ∧ Same Gf G' ∧ Bag G' o' ∧ Sep G' ((b, o') :: bs'.flatMap (Bx.cells T.C_Known T.C_Things)) H' ∧ (∀ bx ∈ bs', bx.ok G' T.C_Key) ∧ (bs'.map fun bx => V.ref bx.x) = (bs.map fun bx => V.ref bx.x) ∧ (bs'.map fun bx => V.ref bx.l) = (bs.map fun bx => V.ref bx.l))
        ⟨_, _, _, o7, bs, Gf, rfl, Same.refl _, B7, S7, fun bx hb => (okb bx hb).same sf, rfl, rfl⟩ (fun i σ H' hi h => ?_) (fun σ H' h => q _)
      obtain ⟨y7, y8, y9, o', bs', G', rfl, s', B', S', okb', ex', el'⟩ := h
      have bl' : bs'.length = 4 := by
        have z := congrArg List.length ex'
        rw [List.length_map, List.length_map] at z
        omega
      refine ⟨G', _, b, o', 4, rfl, S', B', by decide, by decide, fun r8 o8 H8 r80 r81 B8 S8 => ?_⟩
      obtain ⟨j, rfl⟩ := Int.eq_ofNat_of_zero_le r80
      have jl : j < bs'.length := by omega
      have hj := List.getElem?_eq_getElem jl
      have xj : (bs.map fun bx => V.ref bx.x)[j]? = some (V.ref bs'[j].x) := by rw [← ex', List.getElem?_map, hj]; rfl
      have lj : (bs.map fun bx => V.ref bx.l)[j]? = some (V.ref bs'[j].l) := by rw [← el', List.getElem?_map, hj]; rfl
      refine ⟨_, _, .inl (SqL.of (S8.st (s' _ _ hBf))), atI_nat xj, _, _, .inl (SqL.of (S8.st (s' _ _ hLm))), atI_nat lj, G', _, b, o8, bs'[j], m, us, xs, rfl, S8.perm (List.Perm.cons _ (cells_at hj)), B8, okb' _ (List.getElem_mem jl), (hmf.same s').tu, prd_imp (fun _ _ => RowsAt.same s') puf, u1, ul, fun o9 bx' G9 H9 s9 e9x e9l ok9 B9 S9 => ⟨ff, fun _ => ?_⟩⟩
      have S10 : Sep G9 ((b, o9) :: (bs'.set j bx').flatMap (Bx.cells T.C_Known T.C_Things)) H9 := S9.perm (List.Perm.cons _ (by
        have z := (cells_at (c := Bx.cells T.C_Known T.C_Things) (set_at (bx := bx') jl)).symm
        rw [erase_set] at z
        exact z))
      have ex9 : ((bs'.set j bx').map fun bx => V.ref bx.x) = (bs.map fun bx => V.ref bx.x) := (map_set_same (f := fun bx : Bx => V.ref bx.x) hj (by rw [e9x])).trans ex'
      have el9 : ((bs'.set j bx').map fun bx => V.ref bx.l) = (bs.map fun bx => V.ref bx.l) := (map_set_same (f := fun bx : Bx => V.ref bx.l) hj (by rw [e9l])).trans el'
      have ok10 : ∀ bx ∈ bs'.set j bx', bx.ok G9 T.C_Key := mem_set_ok (fun bx hb => (okb' bx hb).same s9) ok9
      have bl9 : (bs'.set j bx').length = 4 := by rw [List.length_set]; exact bl'
      generalize bs'.set j bx' = bq at *
      refine ⟨4, rfl, by decide, by decide, for_range (lo := 0) (n := 4) (fun k σ H' => ∃ (y9 : Option V) (G' : Hp), σ = [some (.ref a), some (.ref b), some (.ref L), some (.ref m), some (.ref D), some (.ref Bl), some (.ref Lm), some (.int (j : Nat)), some (.int (0 + (i : Nat))), y9, none] ∧ Same G9 G' ∧ Sep G' ((b, o9) :: bq.flatMap (Bx.cells T.C_Known T.C_Things)) H')
        ⟨_, G9, rfl, Same.refl _, S10⟩ (fun k σ H' hk h => ?_) (fun σ H' h => ?_)⟩
      · obtain ⟨y9, Gk, rfl, sk, Sk⟩ := h
        rw [Int.zero_add]
        have kl : k < bq.length := by omega
        have hk' := List.getElem?_eq_getElem kl
        have xk : (bs.map fun bx => V.ref bx.x)[k]? = some (V.ref bq[k].x) := by rw [← ex9, List.getElem?_map, hk']; rfl
        have lk : (bs.map fun bx => V.ref bx.l)[k]? = some (V.ref bq[k].l) := by rw [← el9, List.getElem?_map, hk']; rfl
        have sfk := s'.trans (s9.trans sk)
        have pk := (List.Perm.cons (b, o9) (cells_at (c := Bx.cells T.C_Known T.C_Things) hk')).trans (List.perm_append_comm_assoc [(b, o9)] (Bx.cells T.C_Known T.C_Things bq[k]) _)
        exact ⟨_, _, .inl (SqL.of (Sk.st (sfk _ _ hBf))), atI_nat xk, _, _, .inl (SqL.of (Sk.st (sfk _ _ hLm))), atI_nat lk, Gk, _, bq[k], rfl, Sk.perm pk, (ok10 _ (List.getElem_mem kl)).same sk, fun Gl Hl sl Sl => ⟨ff, fun _ => ⟨_, Gl, rfl, sk.trans sl, Sl.perm pk.symm⟩⟩⟩
      · obtain ⟨y9, Gk, rfl, sk, Sk⟩ := h
        exact ⟨_, _, _, o9, bq, Gk, rfl, s'.trans (s9.trans sk), B9.same sk, Sk, fun bx hb => (ok10 bx hb).same sk, ex9, el9⟩
end
end K26
set_option Elab.async false
set_option linter.all false
set_option maxRecDepth 100000
set_option maxHeartbeats 4000000
namespace K26
open PySem PySem.Spec PyProof.Rows L2 XL
section
theorem law_end {l : PySem.W.OpenLaw} {w : World} {K : PySem.W.Frag} {h : Heap} {mg : Str → Option Value} {fa f : Addr} {file : Str} (X : K.In h) (G : h.Ns mainGlobals mg) (hfa : mg "law" = some (.ref fa))
    (t : ∃ T : Top K mg w, T.a_law = f ∧ T.x_file = file ∧ ∀ (s : Shared) (v : Value), BindsTo s T.d_law ⟨[v], []⟩ [("_law_script", v)]) (pf0 : PySem.XExc.PF l.prog file) :
    ∃ fd : FuncData, (∀ (s : Shared) (v : Value), BindsTo s fd ⟨[v], []⟩ [("_law_script", v)]) ∧ ∀ base : Heap, K.In base → base.Ns mainGlobals mg → FnOk l.prog w K mg base CX0 13 fa fd ["_law_script"] (spLaw K) := by
  obtain ⟨T, _, ef, hb⟩ := t
  have pf : PySem.XExc.PF l.prog T.x_file := by rw [ef]; exact pf0
  have e := hfa.symm.trans T.g_law
  cases e
  refine ⟨T.d_law, hb, fun base _ _ => ?_⟩
  have Gm : FnOk l.prog w K mg base CX0 1 T.a_mixed T.d_mixed _ spMixed := ok_mixed T
  have Gp := ok_pick T Gm
  have Gc := ok_choice T Gp
  have Gmi := ok_mingled T Gp
  have Gp3 : FnOk l.prog w K mg base CX0 3 T.a_pick T.d_pick _ spPick := ok_pick T (k := 1) (ok_mixed T)
  have Gf := ok_form T Gp3 Gc 5
  have Gv := ok_value T (P := l.prog) (base := base) 5
  have Gvo := ok_value_of T (P := l.prog) (base := base) 5
  have Gno := ok_names_of T (P := l.prog) (base := base) 5
  have Gip : FnOk l.prog w K mg base CX0 5 T.a_is_part T.d_is_part _ (spPart K) := ok_is_part T (k := 3) (ok_is_number T) (ok_is_name T)
  have Gcf := ok_check_form T Gip
  have Gcr : FnOk l.prog w K mg base CX0 7 T.a_check_row T.d_check_row _ (spRow K) := ok_check_row T
  have Gki := ok_Key_idents T Gcr (ok_idents_of T Gvo)
  have Gp4 : FnOk l.prog w K mg base CX0 4 T.a_pick T.d_pick _ spPick := ok_pick T (k := 2) (ok_mixed T)
  have Gmi4 : FnOk l.prog w K mg base CX0 4 T.a_mingled T.d_mingled _ (spMingled K) := ok_mingled T Gp3
  have Grs := ok_rows_shown T Gp4 Gmi4 (ok_row T Gp3 Gmi) (ok_changed T Gp3 Gmi Gc)
  have Gid := ok_idents T Gv
  have K2 := ok_Known_getitem T pf (w := w) (base := base) (k := 6)
  have K3 := ok_Known_setitem T pf (w := w) (base := base) (k := 6)
  have T2 := ok_Things_getitem T pf (w := w) (base := base) (k := 6)
  have T3 := ok_Things_setitem T pf (w := w) (base := base) (k := 6)
  have Gkb := ok_known_by T Gid
  have Gsh := ok_shows T Gkb
  have Gag := ok_agrees T (ok_Known_iter T (k := 7)) (ok_Things_iter T (k := 7)) Gkb (ok_number T) K2 T2
  have Gst := ok_step T Gp3 (ok_Known_show T Gki) (ok_Things_show T Gcr) Gsh Gkb K3 T3 (ok_not_read T pf K2 T2) (ok_not_set T pf K3 T3)
  exact ok_law T (ok_bag T) Gp3 (ok_any_key T Gp3 Gc Gf) Grs (ok_Key_init T Gcf Gno) (ok_Known_init T Gki) (ok_Things_init T Gcr) Gsh Gst Gag
end
theorem top_mk {K : PySem.W.Frag} {W : World} {h : Heap} {mg : Str → Option Value} (X : K.In h) (G : h.Ns mainGlobals mg)
    {C0 : Addr}
    (ca0 : PySem.W.nsIn K mainGlobals "Key" = some (some (.ref C0)))
    {C1 : Addr}
    (ca1 : PySem.W.nsIn K mainGlobals "Known" = some (some (.ref C1)))
    {C2 : Addr}
    (ca2 : PySem.W.nsIn K mainGlobals "Things" = some (some (.ref C2)))
    {f0 : Addr} {od0 an0 : Option Addr} {sl0 : Array (Option Value)} {oc0 kV0 dc0 pm0 cd0 ct0 : Value}
    (a0 : PySem.W.nsIn K mainGlobals "is_name" = some (some (.ref f0)))
    (l0 : K.lookup f0 = some ⟨oc0, od0, .func (PySem.W.fnOf "is_name" "is_name" (defArgs s_is_name) (defBody s_is_name) (defScope s_is_name) .none kV0 dc0 pm0 an0 cd0 ct0), sl0⟩)
    (c0 : PySem.W.codeIn K cd0 "is_name" = true)
    (k0 : PySem.W.keepIn K (.ref f0) = true)
    {f1 : Addr} {od1 an1 : Option Addr} {sl1 : Array (Option Value)} {oc1 kV1 dc1 pm1 cd1 ct1 : Value}
    (a1 : PySem.W.nsIn K mainGlobals "is_number" = some (some (.ref f1)))
    (l1 : K.lookup f1 = some ⟨oc1, od1, .func (PySem.W.fnOf "is_number" "is_number" (defArgs s_is_number) (defBody s_is_number) (defScope s_is_number) .none kV1 dc1 pm1 an1 cd1 ct1), sl1⟩)
    (c1 : PySem.W.codeIn K cd1 "is_number" = true)
    (k1 : PySem.W.keepIn K (.ref f1) = true)
    {f2 : Addr} {od2 an2 : Option Addr} {sl2 : Array (Option Value)} {oc2 kV2 dc2 pm2 cd2 ct2 : Value}
    (a2 : PySem.W.nsIn K mainGlobals "is_part" = some (some (.ref f2)))
    (l2 : K.lookup f2 = some ⟨oc2, od2, .func (PySem.W.fnOf "is_part" "is_part" (defArgs s_is_part) (defBody s_is_part) (defScope s_is_part) .none kV2 dc2 pm2 an2 cd2 ct2), sl2⟩)
    (c2 : PySem.W.codeIn K cd2 "is_part" = true)
    (k2 : PySem.W.keepIn K (.ref f2) = true)
    {f3 : Addr} {od3 an3 : Option Addr} {sl3 : Array (Option Value)} {oc3 kV3 dc3 pm3 cd3 ct3 : Value}
    (a3 : PySem.W.nsIn K mainGlobals "check_form" = some (some (.ref f3)))
    (l3 : K.lookup f3 = some ⟨oc3, od3, .func (PySem.W.fnOf "check_form" "check_form" (defArgs s_check_form) (defBody s_check_form) (defScope s_check_form) .none kV3 dc3 pm3 an3 cd3 ct3), sl3⟩)
    (c3 : PySem.W.codeIn K cd3 "check_form" = true)
    (k3 : PySem.W.keepIn K (.ref f3) = true)
    {f4 : Addr} {od4 an4 : Option Addr} {sl4 : Array (Option Value)} {oc4 kV4 dc4 pm4 cd4 ct4 : Value}
    (a4 : PySem.W.nsIn K mainGlobals "value_of" = some (some (.ref f4)))
    (l4 : K.lookup f4 = some ⟨oc4, od4, .func (PySem.W.fnOf "value_of" "value_of" (defArgs s_value_of) (defBody s_value_of) (defScope s_value_of) .none kV4 dc4 pm4 an4 cd4 ct4), sl4⟩)
    (c4 : PySem.W.codeIn K cd4 "value_of" = true)
    (k4 : PySem.W.keepIn K (.ref f4) = true)
    {f5 : Addr} {od5 an5 : Option Addr} {sl5 : Array (Option Value)} {oc5 kV5 dc5 pm5 cd5 ct5 : Value}
    (a5 : PySem.W.nsIn K mainGlobals "names_of" = some (some (.ref f5)))
    (l5 : K.lookup f5 = some ⟨oc5, od5, .func (PySem.W.fnOf "names_of" "names_of" (defArgs s_names_of) (defBody s_names_of) (defScope s_names_of) .none kV5 dc5 pm5 an5 cd5 ct5), sl5⟩)
    (c5 : PySem.W.codeIn K cd5 "names_of" = true)
    (k5 : PySem.W.keepIn K (.ref f5) = true)
    {f6 : Addr} {od6 an6 : Option Addr} {sl6 : Array (Option Value)} {oc6 kV6 dc6 pm6 cd6 ct6 : Value}
    (a6 : PySem.W.nsIn K mainGlobals "check_row" = some (some (.ref f6)))
    (l6 : K.lookup f6 = some ⟨oc6, od6, .func (PySem.W.fnOf "check_row" "check_row" (defArgs s_check_row) (defBody s_check_row) (defScope s_check_row) .none kV6 dc6 pm6 an6 cd6 ct6), sl6⟩)
    (c6 : PySem.W.codeIn K cd6 "check_row" = true)
    (k6 : PySem.W.keepIn K (.ref f6) = true)
    {f7 : Addr} {od7 an7 : Option Addr} {sl7 : Array (Option Value)} {oc7 kV7 dc7 pm7 cd7 ct7 : Value}
    (a7 : PySem.W.nsIn K mainGlobals "idents_of" = some (some (.ref f7)))
    (l7 : K.lookup f7 = some ⟨oc7, od7, .func (PySem.W.fnOf "idents_of" "idents_of" (defArgs s_idents_of) (defBody s_idents_of) (defScope s_idents_of) .none kV7 dc7 pm7 an7 cd7 ct7), sl7⟩)
    (c7 : PySem.W.codeIn K cd7 "idents_of" = true)
    (k7 : PySem.W.keepIn K (.ref f7) = true)
    {f8 : Addr} {od8 an8 : Option Addr} {sl8 : Array (Option Value)} {oc8 kV8 dc8 pm8 cd8 ct8 : Value}
    (a8 : PySem.W.nsIn K mainGlobals "at_most" = some (some (.ref f8)))
    (l8 : K.lookup f8 = some ⟨oc8, od8, .func (PySem.W.fnOf "at_most" "at_most" (defArgs s_at_most) (defBody s_at_most) (defScope s_at_most) .none kV8 dc8 pm8 an8 cd8 ct8), sl8⟩)
    (c8 : PySem.W.codeIn K cd8 "at_most" = true)
    (k8 : PySem.W.keepIn K (.ref f8) = true)
    {f9 : Addr} {od9 an9 : Option Addr} {sl9 : Array (Option Value)} {oc9 kV9 dc9 pm9 cd9 ct9 : Value}
    (a9 : PySem.W.findIn K (.ref C0) "__init__" = some (some (.ref f9)))
    (i9 : PySem.W.isFn K (.ref f9) = true)
    (l9 : K.lookup f9 = some ⟨oc9, od9, .func (PySem.W.fnOf "__init__" "Key.__init__" (defArgs s_Key_init) (defBody s_Key_init) (defScope s_Key_init) .none kV9 dc9 pm9 an9 cd9 ct9), sl9⟩)
    (c9 : PySem.W.codeIn K cd9 "Key.__init__" = true)
    (k9 : PySem.W.keepIn K (.ref f9) = true)
    {f10 : Addr} {od10 an10 : Option Addr} {sl10 : Array (Option Value)} {oc10 kV10 dc10 pm10 cd10 ct10 : Value}
    {p10 : Addr} {pr10 : List Value}
    (a10 : PySem.W.findIn K (.ref C0) "parts" = some (some (.ref p10)))
    (pg10 : PySem.W.specialIn K (.ref p10) "__get__" = some (some (.builtin "property.__get__")))
    (pt10 : PySem.W.takesIn K (.ref p10) = some true)
    (pc10 : PySem.W.recIn K p10 "property" = some (.ref f10 :: pr10))
    (l10 : K.lookup f10 = some ⟨oc10, od10, .func (PySem.W.fnOf "parts" "Key.parts" (defArgs s_Key_parts) (defBody s_Key_parts) (defScope s_Key_parts) .none kV10 dc10 pm10 an10 cd10 ct10), sl10⟩)
    (c10 : PySem.W.codeIn K cd10 "Key.parts" = true)
    (k10 : PySem.W.keepIn K (.ref f10) = true)
    {f11 : Addr} {od11 an11 : Option Addr} {sl11 : Array (Option Value)} {oc11 kV11 dc11 pm11 cd11 ct11 : Value}
    (a11 : PySem.W.findIn K (.ref C0) "__call__" = some (some (.ref f11)))
    (i11 : PySem.W.isFn K (.ref f11) = true)
    (fi11 : PySem.W.fnIn K f11 = true)
    (l11 : K.lookup f11 = some ⟨oc11, od11, .func (PySem.W.fnOf "__call__" "Key.__call__" (defArgs s_Key_call) (defBody s_Key_call) (defScope s_Key_call) .none kV11 dc11 pm11 an11 cd11 ct11), sl11⟩)
    (c11 : PySem.W.codeIn K cd11 "Key.__call__" = true)
    (k11 : PySem.W.keepIn K (.ref f11) = true)
    {f12 : Addr} {od12 an12 : Option Addr} {sl12 : Array (Option Value)} {oc12 kV12 dc12 pm12 cd12 ct12 : Value}
    (a12 : PySem.W.findIn K (.ref C0) "__le__" = some (some (.ref f12)))
    (i12 : PySem.W.isFn K (.ref f12) = true)
    (l12 : K.lookup f12 = some ⟨oc12, od12, .func (PySem.W.fnOf "__le__" "Key.__le__" (defArgs s_Key_le) (defBody s_Key_le) (defScope s_Key_le) .none kV12 dc12 pm12 an12 cd12 ct12), sl12⟩)
    (c12 : PySem.W.codeIn K cd12 "Key.__le__" = true)
    (k12 : PySem.W.keepIn K (.ref f12) = true)
    {f13 : Addr} {od13 an13 : Option Addr} {sl13 : Array (Option Value)} {oc13 kV13 dc13 pm13 cd13 ct13 : Value}
    (a13 : PySem.W.findIn K (.ref C0) "idents" = some (some (.ref f13)))
    (i13 : PySem.W.isFn K (.ref f13) = true)
    (l13 : K.lookup f13 = some ⟨oc13, od13, .func (PySem.W.fnOf "idents" "Key.idents" (defArgs s_Key_idents) (defBody s_Key_idents) (defScope s_Key_idents) .none kV13 dc13 pm13 an13 cd13 ct13), sl13⟩)
    (c13 : PySem.W.codeIn K cd13 "Key.idents" = true)
    (k13 : PySem.W.keepIn K (.ref f13) = true)
    {f14 : Addr} {od14 an14 : Option Addr} {sl14 : Array (Option Value)} {oc14 kV14 dc14 pm14 cd14 ct14 : Value}
    (a14 : PySem.W.findIn K (.ref C1) "__init__" = some (some (.ref f14)))
    (i14 : PySem.W.isFn K (.ref f14) = true)
    (l14 : K.lookup f14 = some ⟨oc14, od14, .func (PySem.W.fnOf "__init__" "Known.__init__" (defArgs s_Known_init) (defBody s_Known_init) (defScope s_Known_init) .none kV14 dc14 pm14 an14 cd14 ct14), sl14⟩)
    (c14 : PySem.W.codeIn K cd14 "Known.__init__" = true)
    (k14 : PySem.W.keepIn K (.ref f14) = true)
    {f15 : Addr} {od15 an15 : Option Addr} {sl15 : Array (Option Value)} {oc15 kV15 dc15 pm15 cd15 ct15 : Value}
    (a15 : PySem.W.findIn K (.ref C1) "__iter__" = some (some (.ref f15)))
    (i15 : PySem.W.isFn K (.ref f15) = true)
    (l15 : K.lookup f15 = some ⟨oc15, od15, .func (PySem.W.fnOf "__iter__" "Known.__iter__" (defArgs s_Known_iter) (defBody s_Known_iter) (defScope s_Known_iter) .none kV15 dc15 pm15 an15 cd15 ct15), sl15⟩)
    (c15 : PySem.W.codeIn K cd15 "Known.__iter__" = true)
    (k15 : PySem.W.keepIn K (.ref f15) = true)
    {f16 : Addr} {od16 an16 : Option Addr} {sl16 : Array (Option Value)} {oc16 kV16 dc16 pm16 cd16 ct16 : Value}
    (a16 : PySem.W.findIn K (.ref C1) "__getitem__" = some (some (.ref f16)))
    (i16 : PySem.W.isFn K (.ref f16) = true)
    (fi16 : PySem.W.fnIn K f16 = true)
    (l16 : K.lookup f16 = some ⟨oc16, od16, .func (PySem.W.fnOf "__getitem__" "Known.__getitem__" (defArgs s_Known_getitem) (defBody s_Known_getitem) (defScope s_Known_getitem) .none kV16 dc16 pm16 an16 cd16 ct16), sl16⟩)
    (c16 : PySem.W.codeIn K cd16 "Known.__getitem__" = true)
    (k16 : PySem.W.keepIn K (.ref f16) = true)
    {f17 : Addr} {od17 an17 : Option Addr} {sl17 : Array (Option Value)} {oc17 kV17 dc17 pm17 cd17 ct17 : Value}
    (a17 : PySem.W.findIn K (.ref C1) "__setitem__" = some (some (.ref f17)))
    (i17 : PySem.W.isFn K (.ref f17) = true)
    (nq17 : PySem.W.noSeq K C1 = true)
    (l17 : K.lookup f17 = some ⟨oc17, od17, .func (PySem.W.fnOf "__setitem__" "Known.__setitem__" (defArgs s_Known_setitem) (defBody s_Known_setitem) (defScope s_Known_setitem) .none kV17 dc17 pm17 an17 cd17 ct17), sl17⟩)
    (c17 : PySem.W.codeIn K cd17 "Known.__setitem__" = true)
    (k17 : PySem.W.keepIn K (.ref f17) = true)
    {f18 : Addr} {od18 an18 : Option Addr} {sl18 : Array (Option Value)} {oc18 kV18 dc18 pm18 cd18 ct18 : Value}
    (a18 : PySem.W.findIn K (.ref C1) "show" = some (some (.ref f18)))
    (i18 : PySem.W.isFn K (.ref f18) = true)
    (l18 : K.lookup f18 = some ⟨oc18, od18, .func (PySem.W.fnOf "show" "Known.show" (defArgs s_Known_show) (defBody s_Known_show) (defScope s_Known_show) .none kV18 dc18 pm18 an18 cd18 ct18), sl18⟩)
    (c18 : PySem.W.codeIn K cd18 "Known.show" = true)
    (k18 : PySem.W.keepIn K (.ref f18) = true)
    {f19 : Addr} {od19 an19 : Option Addr} {sl19 : Array (Option Value)} {oc19 kV19 dc19 pm19 cd19 ct19 : Value}
    (a19 : PySem.W.findIn K (.ref C2) "__init__" = some (some (.ref f19)))
    (i19 : PySem.W.isFn K (.ref f19) = true)
    (l19 : K.lookup f19 = some ⟨oc19, od19, .func (PySem.W.fnOf "__init__" "Things.__init__" (defArgs s_Things_init) (defBody s_Things_init) (defScope s_Things_init) .none kV19 dc19 pm19 an19 cd19 ct19), sl19⟩)
    (c19 : PySem.W.codeIn K cd19 "Things.__init__" = true)
    (k19 : PySem.W.keepIn K (.ref f19) = true)
    {f20 : Addr} {od20 an20 : Option Addr} {sl20 : Array (Option Value)} {oc20 kV20 dc20 pm20 cd20 ct20 : Value}
    (a20 : PySem.W.findIn K (.ref C2) "__iter__" = some (some (.ref f20)))
    (i20 : PySem.W.isFn K (.ref f20) = true)
    (l20 : K.lookup f20 = some ⟨oc20, od20, .func (PySem.W.fnOf "__iter__" "Things.__iter__" (defArgs s_Things_iter) (defBody s_Things_iter) (defScope s_Things_iter) .none kV20 dc20 pm20 an20 cd20 ct20), sl20⟩)
    (c20 : PySem.W.codeIn K cd20 "Things.__iter__" = true)
    (k20 : PySem.W.keepIn K (.ref f20) = true)
    {f21 : Addr} {od21 an21 : Option Addr} {sl21 : Array (Option Value)} {oc21 kV21 dc21 pm21 cd21 ct21 : Value}
    (a21 : PySem.W.findIn K (.ref C2) "__getitem__" = some (some (.ref f21)))
    (i21 : PySem.W.isFn K (.ref f21) = true)
    (fi21 : PySem.W.fnIn K f21 = true)
    (l21 : K.lookup f21 = some ⟨oc21, od21, .func (PySem.W.fnOf "__getitem__" "Things.__getitem__" (defArgs s_Things_getitem) (defBody s_Things_getitem) (defScope s_Things_getitem) .none kV21 dc21 pm21 an21 cd21 ct21), sl21⟩)
    (c21 : PySem.W.codeIn K cd21 "Things.__getitem__" = true)
    (k21 : PySem.W.keepIn K (.ref f21) = true)
    {f22 : Addr} {od22 an22 : Option Addr} {sl22 : Array (Option Value)} {oc22 kV22 dc22 pm22 cd22 ct22 : Value}
    (a22 : PySem.W.findIn K (.ref C2) "__setitem__" = some (some (.ref f22)))
    (i22 : PySem.W.isFn K (.ref f22) = true)
    (nq22 : PySem.W.noSeq K C2 = true)
    (l22 : K.lookup f22 = some ⟨oc22, od22, .func (PySem.W.fnOf "__setitem__" "Things.__setitem__" (defArgs s_Things_setitem) (defBody s_Things_setitem) (defScope s_Things_setitem) .none kV22 dc22 pm22 an22 cd22 ct22), sl22⟩)
    (c22 : PySem.W.codeIn K cd22 "Things.__setitem__" = true)
    (k22 : PySem.W.keepIn K (.ref f22) = true)
    {f23 : Addr} {od23 an23 : Option Addr} {sl23 : Array (Option Value)} {oc23 kV23 dc23 pm23 cd23 ct23 : Value}
    (a23 : PySem.W.findIn K (.ref C2) "show" = some (some (.ref f23)))
    (i23 : PySem.W.isFn K (.ref f23) = true)
    (l23 : K.lookup f23 = some ⟨oc23, od23, .func (PySem.W.fnOf "show" "Things.show" (defArgs s_Things_show) (defBody s_Things_show) (defScope s_Things_show) .none kV23 dc23 pm23 an23 cd23 ct23), sl23⟩)
    (c23 : PySem.W.codeIn K cd23 "Things.show" = true)
    (k23 : PySem.W.keepIn K (.ref f23) = true)
    {f24 : Addr} {od24 an24 : Option Addr} {sl24 : Array (Option Value)} {oc24 kV24 dc24 pm24 cd24 ct24 : Value}
    (a24 : PySem.W.nsIn K mainGlobals "_law_mixed" = some (some (.ref f24)))
    (l24 : K.lookup f24 = some ⟨oc24, od24, .func (PySem.W.fnOf "_law_mixed" "_law_mixed" (defArgs s_mixed) (defBody s_mixed) (defScope s_mixed) .none kV24 dc24 pm24 an24 cd24 ct24), sl24⟩)
    (c24 : PySem.W.codeIn K cd24 "_law_mixed" = true)
    (k24 : PySem.W.keepIn K (.ref f24) = true)
    {f25 : Addr} {od25 an25 : Option Addr} {sl25 : Array (Option Value)} {oc25 kV25 dc25 pm25 cd25 ct25 : Value}
    (a25 : PySem.W.nsIn K mainGlobals "_law_bag" = some (some (.ref f25)))
    (l25 : K.lookup f25 = some ⟨oc25, od25, .func (PySem.W.fnOf "_law_bag" "_law_bag" (defArgs s_bag) (defBody s_bag) (defScope s_bag) .none kV25 dc25 pm25 an25 cd25 ct25), sl25⟩)
    (c25 : PySem.W.codeIn K cd25 "_law_bag" = true)
    (k25 : PySem.W.keepIn K (.ref f25) = true)
    {f26 : Addr} {od26 an26 : Option Addr} {sl26 : Array (Option Value)} {oc26 kV26 dc26 pm26 cd26 ct26 : Value}
    (a26 : PySem.W.nsIn K mainGlobals "_law_pick" = some (some (.ref f26)))
    (l26 : K.lookup f26 = some ⟨oc26, od26, .func (PySem.W.fnOf "_law_pick" "_law_pick" (defArgs s_pick) (defBody s_pick) (defScope s_pick) .none kV26 dc26 pm26 an26 cd26 ct26), sl26⟩)
    (c26 : PySem.W.codeIn K cd26 "_law_pick" = true)
    (k26 : PySem.W.keepIn K (.ref f26) = true)
    {f27 : Addr} {od27 an27 : Option Addr} {sl27 : Array (Option Value)} {oc27 kV27 dc27 pm27 cd27 ct27 : Value}
    (a27 : PySem.W.nsIn K mainGlobals "_law_choice" = some (some (.ref f27)))
    (l27 : K.lookup f27 = some ⟨oc27, od27, .func (PySem.W.fnOf "_law_choice" "_law_choice" (defArgs s_choice) (defBody s_choice) (defScope s_choice) .none kV27 dc27 pm27 an27 cd27 ct27), sl27⟩)
    (c27 : PySem.W.codeIn K cd27 "_law_choice" = true)
    (k27 : PySem.W.keepIn K (.ref f27) = true)
    {f28 : Addr} {od28 an28 : Option Addr} {sl28 : Array (Option Value)} {oc28 kV28 dc28 pm28 cd28 ct28 : Value}
    (a28 : PySem.W.nsIn K mainGlobals "_law_mingled" = some (some (.ref f28)))
    (l28 : K.lookup f28 = some ⟨oc28, od28, .func (PySem.W.fnOf "_law_mingled" "_law_mingled" (defArgs s_mingled) (defBody s_mingled) (defScope s_mingled) .none kV28 dc28 pm28 an28 cd28 ct28), sl28⟩)
    (c28 : PySem.W.codeIn K cd28 "_law_mingled" = true)
    (k28 : PySem.W.keepIn K (.ref f28) = true)
    {f29 : Addr} {od29 an29 : Option Addr} {sl29 : Array (Option Value)} {oc29 kV29 dc29 pm29 cd29 ct29 : Value}
    (a29 : PySem.W.nsIn K mainGlobals "_law_number" = some (some (.ref f29)))
    (l29 : K.lookup f29 = some ⟨oc29, od29, .func (PySem.W.fnOf "_law_number" "_law_number" (defArgs s_number) (defBody s_number) (defScope s_number) .none kV29 dc29 pm29 an29 cd29 ct29), sl29⟩)
    (c29 : PySem.W.codeIn K cd29 "_law_number" = true)
    (k29 : PySem.W.keepIn K (.ref f29) = true)
    {f30 : Addr} {od30 an30 : Option Addr} {sl30 : Array (Option Value)} {oc30 kV30 dc30 pm30 cd30 ct30 : Value}
    (a30 : PySem.W.nsIn K mainGlobals "_law_form" = some (some (.ref f30)))
    (l30 : K.lookup f30 = some ⟨oc30, od30, .func (PySem.W.fnOf "_law_form" "_law_form" (defArgs s_form) (defBody s_form) (defScope s_form) .none kV30 dc30 pm30 an30 cd30 ct30), sl30⟩)
    (c30 : PySem.W.codeIn K cd30 "_law_form" = true)
    (k30 : PySem.W.keepIn K (.ref f30) = true)
    {f31 : Addr} {od31 an31 : Option Addr} {sl31 : Array (Option Value)} {oc31 kV31 dc31 pm31 cd31 ct31 : Value}
    (a31 : PySem.W.nsIn K mainGlobals "_law_value" = some (some (.ref f31)))
    (l31 : K.lookup f31 = some ⟨oc31, od31, .func (PySem.W.fnOf "_law_value" "_law_value" (defArgs s_value) (defBody s_value) (defScope s_value) .none kV31 dc31 pm31 an31 cd31 ct31), sl31⟩)
    (c31 : PySem.W.codeIn K cd31 "_law_value" = true)
    (k31 : PySem.W.keepIn K (.ref f31) = true)
    {f32 : Addr} {od32 an32 : Option Addr} {sl32 : Array (Option Value)} {oc32 kV32 dc32 pm32 cd32 ct32 : Value}
    (a32 : PySem.W.nsIn K mainGlobals "_law_idents" = some (some (.ref f32)))
    (l32 : K.lookup f32 = some ⟨oc32, od32, .func (PySem.W.fnOf "_law_idents" "_law_idents" (defArgs s_idents) (defBody s_idents) (defScope s_idents) .none kV32 dc32 pm32 an32 cd32 ct32), sl32⟩)
    (c32 : PySem.W.codeIn K cd32 "_law_idents" = true)
    (k32 : PySem.W.keepIn K (.ref f32) = true)
    {f33 : Addr} {od33 an33 : Option Addr} {sl33 : Array (Option Value)} {oc33 kV33 dc33 pm33 cd33 ct33 : Value}
    (a33 : PySem.W.nsIn K mainGlobals "_law_row" = some (some (.ref f33)))
    (l33 : K.lookup f33 = some ⟨oc33, od33, .func (PySem.W.fnOf "_law_row" "_law_row" (defArgs s_row) (defBody s_row) (defScope s_row) .none kV33 dc33 pm33 an33 cd33 ct33), sl33⟩)
    (c33 : PySem.W.codeIn K cd33 "_law_row" = true)
    (k33 : PySem.W.keepIn K (.ref f33) = true)
    {f34 : Addr} {od34 an34 : Option Addr} {sl34 : Array (Option Value)} {oc34 kV34 dc34 pm34 cd34 ct34 : Value}
    (a34 : PySem.W.nsIn K mainGlobals "_law_any_key" = some (some (.ref f34)))
    (l34 : K.lookup f34 = some ⟨oc34, od34, .func (PySem.W.fnOf "_law_any_key" "_law_any_key" (defArgs s_any_key) (defBody s_any_key) (defScope s_any_key) .none kV34 dc34 pm34 an34 cd34 ct34), sl34⟩)
    (c34 : PySem.W.codeIn K cd34 "_law_any_key" = true)
    (k34 : PySem.W.keepIn K (.ref f34) = true)
    {f35 : Addr} {od35 an35 : Option Addr} {sl35 : Array (Option Value)} {oc35 kV35 dc35 pm35 cd35 ct35 : Value}
    (a35 : PySem.W.nsIn K mainGlobals "_law_changed" = some (some (.ref f35)))
    (l35 : K.lookup f35 = some ⟨oc35, od35, .func (PySem.W.fnOf "_law_changed" "_law_changed" (defArgs s_changed) (defBody s_changed) (defScope s_changed) .none kV35 dc35 pm35 an35 cd35 ct35), sl35⟩)
    (c35 : PySem.W.codeIn K cd35 "_law_changed" = true)
    (k35 : PySem.W.keepIn K (.ref f35) = true)
    {f36 : Addr} {od36 an36 : Option Addr} {sl36 : Array (Option Value)} {oc36 kV36 dc36 pm36 cd36 ct36 : Value}
    (a36 : PySem.W.nsIn K mainGlobals "_law_rows_shown" = some (some (.ref f36)))
    (l36 : K.lookup f36 = some ⟨oc36, od36, .func (PySem.W.fnOf "_law_rows_shown" "_law_rows_shown" (defArgs s_rows_shown) (defBody s_rows_shown) (defScope s_rows_shown) .none kV36 dc36 pm36 an36 cd36 ct36), sl36⟩)
    (c36 : PySem.W.codeIn K cd36 "_law_rows_shown" = true)
    (k36 : PySem.W.keepIn K (.ref f36) = true)
    {f37 : Addr} {od37 an37 : Option Addr} {sl37 : Array (Option Value)} {oc37 kV37 dc37 pm37 cd37 ct37 : Value}
    (a37 : PySem.W.nsIn K mainGlobals "_law_known_by" = some (some (.ref f37)))
    (l37 : K.lookup f37 = some ⟨oc37, od37, .func (PySem.W.fnOf "_law_known_by" "_law_known_by" (defArgs s_known_by) (defBody s_known_by) (defScope s_known_by) .none kV37 dc37 pm37 an37 cd37 ct37), sl37⟩)
    (c37 : PySem.W.codeIn K cd37 "_law_known_by" = true)
    (k37 : PySem.W.keepIn K (.ref f37) = true)
    {f38 : Addr} {od38 an38 : Option Addr} {sl38 : Array (Option Value)} {oc38 kV38 dc38 pm38 cd38 ct38 : Value}
    (a38 : PySem.W.nsIn K mainGlobals "_law_shows" = some (some (.ref f38)))
    (l38 : K.lookup f38 = some ⟨oc38, od38, .func (PySem.W.fnOf "_law_shows" "_law_shows" (defArgs s_shows) (defBody s_shows) (defScope s_shows) .none kV38 dc38 pm38 an38 cd38 ct38), sl38⟩)
    (c38 : PySem.W.codeIn K cd38 "_law_shows" = true)
    (k38 : PySem.W.keepIn K (.ref f38) = true)
    {f39 : Addr} {od39 an39 : Option Addr} {sl39 : Array (Option Value)} {oc39 kV39 dc39 pm39 cd39 ct39 : Value}
    (a39 : PySem.W.nsIn K mainGlobals "_law_agrees" = some (some (.ref f39)))
    (l39 : K.lookup f39 = some ⟨oc39, od39, .func (PySem.W.fnOf "_law_agrees" "_law_agrees" (defArgs s_agrees) (defBody s_agrees) (defScope s_agrees) .none kV39 dc39 pm39 an39 cd39 ct39), sl39⟩)
    (c39 : PySem.W.codeIn K cd39 "_law_agrees" = true)
    (k39 : PySem.W.keepIn K (.ref f39) = true)
    {f40 : Addr} {od40 an40 : Option Addr} {sl40 : Array (Option Value)} {oc40 kV40 dc40 pm40 cd40 ct40 : Value}
    (a40 : PySem.W.nsIn K mainGlobals "_law_not_read" = some (some (.ref f40)))
    (l40 : K.lookup f40 = some ⟨oc40, od40, .func (PySem.W.fnOf "_law_not_read" "_law_not_read" (defArgs s_not_read) (defBody s_not_read) (defScope s_not_read) .none kV40 dc40 pm40 an40 cd40 ct40), sl40⟩)
    (c40 : PySem.W.codeIn K cd40 "_law_not_read" = true)
    (k40 : PySem.W.keepIn K (.ref f40) = true)
    {f41 : Addr} {od41 an41 : Option Addr} {sl41 : Array (Option Value)} {oc41 kV41 dc41 pm41 cd41 ct41 : Value}
    (a41 : PySem.W.nsIn K mainGlobals "_law_not_set" = some (some (.ref f41)))
    (l41 : K.lookup f41 = some ⟨oc41, od41, .func (PySem.W.fnOf "_law_not_set" "_law_not_set" (defArgs s_not_set) (defBody s_not_set) (defScope s_not_set) .none kV41 dc41 pm41 an41 cd41 ct41), sl41⟩)
    (c41 : PySem.W.codeIn K cd41 "_law_not_set" = true)
    (k41 : PySem.W.keepIn K (.ref f41) = true)
    {f42 : Addr} {od42 an42 : Option Addr} {sl42 : Array (Option Value)} {oc42 kV42 dc42 pm42 cd42 ct42 : Value}
    (a42 : PySem.W.nsIn K mainGlobals "_law_step" = some (some (.ref f42)))
    (l42 : K.lookup f42 = some ⟨oc42, od42, .func (PySem.W.fnOf "_law_step" "_law_step" (defArgs s_step) (defBody s_step) (defScope s_step) .none kV42 dc42 pm42 an42 cd42 ct42), sl42⟩)
    (c42 : PySem.W.codeIn K cd42 "_law_step" = true)
    (k42 : PySem.W.keepIn K (.ref f42) = true)
    {f43 : Addr} {od43 an43 : Option Addr} {sl43 : Array (Option Value)} {oc43 kV43 dc43 pm43 cd43 ct43 : Value}
    (a43 : PySem.W.nsIn K mainGlobals "law" = some (some (.ref f43)))
    (l43 : K.lookup f43 = some ⟨oc43, od43, .func (PySem.W.fnOf "law" "law" (defArgs s_law) (defBody s_law) (defScope s_law) .none kV43 dc43 pm43 an43 cd43 ct43), sl43⟩)
    (c43 : PySem.W.codeIn K cd43 "law" = true)
    (k43 : PySem.W.keepIn K (.ref f43) = true)
    (z0 : PySem.W.nsIn K mainGlobals "NotImplemented" = some none)
    (z1 : PySem.W.nsIn K mainGlobals "abs" = some none)
    (z2 : PySem.W.nsIn K mainGlobals "all" = some none)
    (z3 : PySem.W.nsIn K mainGlobals "bool" = some none)
    (z4 : PySem.W.nsIn K mainGlobals "enumerate" = some none)
    (z5 : PySem.W.nsIn K mainGlobals "int" = some none)
    (z6 : PySem.W.nsIn K mainGlobals "isinstance" = some none)
    (z7 : PySem.W.nsIn K mainGlobals "iter" = some none)
    (z8 : PySem.W.nsIn K mainGlobals "len" = some none)
    (z9 : PySem.W.nsIn K mainGlobals "list" = some none)
    (z10 : PySem.W.nsIn K mainGlobals "range" = some none)
    (z11 : PySem.W.nsIn K mainGlobals "str" = some none)
    (z12 : PySem.W.nsIn K mainGlobals "tuple" = some none)
    {w0 : Value}
    (y0 : PySem.W.nsIn K mainGlobals "LETTERS" = some (some w0))
    (x0 : ∃ t, w0 = .str "abcdefghijklmnopqrstuvwxyz" t)
    {w1 : Value}
    (y1 : PySem.W.nsIn K mainGlobals "MOST_LEVELS" = some (some w1))
    (x1 : ∃ t, w1 = .int 5 t)
    {w2 : Value}
    (y2 : PySem.W.nsIn K mainGlobals "MOST_ITEMS" = some (some w2))
    (x2 : ∃ t, w2 = .int 5 t)
    {D0 : Addr} {de0 : Array DictEntry} {dn0 : Nat}
    (da0 : PySem.W.nsIn K mainGlobals "COUNTS" = some (some (.ref D0)))
    (dl0 : K.lookup D0 = some ⟨.type "dict", none, .dict de0 dn0, #[]⟩)
    (dk0 : PySem.W.KeysLit W.params de0.toList)
    (dw0 : (D0 == sysModules) = false)
    {dt0_0 : Tok}
    (dv0_0 : PySem.W.nsIn K D0 "is" = some (some (.int 2 dt0_0)))
    {dt0_1 : Tok}
    (dv0_1 : PySem.W.nsIn K D0 "get" = some (some (.int 2 dt0_1)))
    {dt0_2 : Tok}
    (dv0_2 : PySem.W.nsIn K D0 "sum" = some (some (.int 3 dt0_2)))
    {dt0_3 : Tok}
    (dv0_3 : PySem.W.nsIn K D0 "same" = some (some (.int 3 dt0_3)))
    {dt0_4 : Tok}
    (dv0_4 : PySem.W.nsIn K D0 "pick" = some (some (.int 4 dt0_4)))
    (cg0 : PySem.W.plainGet K C0 Str.empty = true)
    (ch0 : PySem.W.hasDictIn K C0 = true)
    (co0 : PySem.W.plainOver K C0 = true)
    (cs0 : PySem.W.findIn K (.ref C0) "__setattr__" = some (some (.builtin "object.__setattr__")))
    (cf0_0 : PySem.W.findIn K (.ref C0) "form" = some none)
    (cm0 : PySem.W.makesIn K C0 = true)
    (ck0 : PySem.W.keepIn K (.ref C0) = true)
    (ct0_a : PySem.W.findIn K (.ref C0) "__class__" = some (some (.builtin "object.__class__")))
    (ct0_b : PySem.W.specialIn K (.builtin "object.__class__") "__get__" = some (some (.builtin "getset_descriptor.__get__")))
    (ct0_c : PySem.W.takesIn K (.builtin "object.__class__") = some true)
    (ct0_d : PySem.W.mroIn K C0 (.type "object") = some true)
    (cg1 : PySem.W.plainGet K C1 Str.empty = true)
    (ch1 : PySem.W.hasDictIn K C1 = true)
    (co1 : PySem.W.plainOver K C1 = true)
    (cs1 : PySem.W.findIn K (.ref C1) "__setattr__" = some (some (.builtin "object.__setattr__")))
    (cf1_0 : PySem.W.findIn K (.ref C1) "key" = some none)
    (cf1_1 : PySem.W.findIn K (.ref C1) "row" = some none)
    (cf1_2 : PySem.W.findIn K (.ref C1) "known_by" = some none)
    (cf1_3 : PySem.W.findIn K (.ref C1) "numbers" = some none)
    (cm1 : PySem.W.makesIn K C1 = true)
    (ck1 : PySem.W.keepIn K (.ref C1) = true)
    (cg2 : PySem.W.plainGet K C2 Str.empty = true)
    (ch2 : PySem.W.hasDictIn K C2 = true)
    (co2 : PySem.W.plainOver K C2 = true)
    (cs2 : PySem.W.findIn K (.ref C2) "__setattr__" = some (some (.builtin "object.__setattr__")))
    (cf2_0 : PySem.W.findIn K (.ref C2) "row" = some none)
    (cf2_1 : PySem.W.findIn K (.ref C2) "numbers" = some none)
    (cm2 : PySem.W.makesIn K C2 = true)
    (ck2 : PySem.W.keepIn K (.ref C2) = true)
    {file : Str}
    {R0 : Addr}
    (ra0 : PySem.W.nsIn K mainGlobals "ScreenError" = some (some (.ref R0)))
    (rb0 : PySem.W.isClsIn K R0 = true)
    (rc0 : PySem.W.typeIn K (.ref R0) = some (.type "type"))
    (rd0 : PySem.W.subIn K (.ref R0) (.type "BaseException") = some true)
    {R1 : Addr}
    (ra1 : PySem.W.nsIn K mainGlobals "NoName" = some (some (.ref R1)))
    (rb1 : PySem.W.isClsIn K R1 = true)
    (rc1 : PySem.W.typeIn K (.ref R1) = some (.type "type"))
    {R2 : Addr}
    (ra2 : PySem.W.nsIn K mainGlobals "BadRow" = some (some (.ref R2)))
    (rb2 : PySem.W.isClsIn K R2 = true)
    (rc2 : PySem.W.typeIn K (.ref R2) = some (.type "type"))
    {E0 J0 : Addr}
    (xa0 : PySem.W.nsIn K mainGlobals "NoItem" = some (some (.ref E0)))
    {xnm0 xq0 : Str} {xN0 : Addr} {xbs0 xbm0 xsub0 : List Value} {xsn0 : List Str} {xab0 : Bool} {xcol0 : Option Bool} {xdd0 : Option Addr} {xm00 xm10 xm20 xm30 xm50 : Option Value}
    (xL0 : K.lookup E0 = some (excClassObj xnm0 xq0 E0 xN0 xbs0 xbm0 true xsn0 xsub0 xab0 xcol0 xdd0 xm00 xm10 xm20 xm30 xm50 "ValueError.__new__"))
    (xr0 : PySem.HandSPX.refsVE xbm0 = true)
    (xs0 : PySem.W.findIn K (.ref E0) "__setattr__" = some (some (.builtin "object.__setattr__")))
    (xg0 : PySem.W.findIn K (.ref E0) "__getattribute__" = some (some (.builtin "BaseException.__getattribute__")))
    (xh0 : PySem.W.findIn K (.ref E0) "__getattr__" = some none)
    (xf0 : PySem.W.findIn K (.ref E0) "item" = some none)
    (xi0 : PySem.W.findIn K (.ref E0) "__init__" = some (some (.ref J0)))
    (xt0 : PySem.W.typeIn K (.ref J0) = some (.type "function"))
    {xoc0 xkV0 xdc0 xpm0 xct0 xccl0 xcl0 : Value} {xod0 xan0 xcdd0 xcld0 : Option Addr} {xsl0 xccs0 xcsl0 : Array (Option Value)} {cda0 cc0 : Addr} {xvs0 : Array Value} {xtf0 : Tok}
    (xl0 : K.lookup J0 = some ⟨xoc0, xod0, .func (PySem.W.ksFn "__init__" "NoItem.__init__" (defArgs s_NoItem_init) (defBody s_NoItem_init) (defScope s_NoItem_init) .none xkV0 xdc0 xpm0 xan0 (.ref cda0) xct0 cc0), xsl0⟩)
    (xd0 : PySem.W.codeIn K (.ref cda0) "NoItem.__init__" = true)
    (xe0 : K.lookup cda0 = some ⟨xccl0, xcdd0, .fields xvs0, xccs0⟩)
    (xv0 : xvs0[2]? = some (.str file xtf0))
    (xc0 : K.lookup cc0 = some ⟨xcl0, xcld0, .cell (some (.ref E0)), xcsl0⟩)
    (xk0 : PySem.W.keepIn K (.ref E0) = true)
    (xb0 : PySem.W.subIn K (.ref E0) (.type "BaseException") = some true)
    (xy0 : PySem.W.typeIn K (.ref E0) = some (.type "type"))
    (xj0 : PySem.W.hasDictIn K E0 = true)
    (xp0 : PySem.W.ks_superIn K E0 E0 "__init__" = some (some (.builtin "ValueError.__init__")))
    (xw0 : PySem.W.subIn K (.ref E0) (.type "ValueError") = some true)
    (xz0 : PySem.W.mroIn K E0 (.ref E0) = some true)
    (xo0 : PySem.W.nsIn K cStatics "thirdparty.any" = some none)
    (xu0 : PySem.W.nsIn K mainGlobals "super" = some none)
    (xca0 : PySem.W.findIn K (.ref E0) "__class__" = some (some (.builtin "object.__class__")))
    (xcb0 : PySem.W.specialIn K (.builtin "object.__class__") "__get__" = some (some (.builtin "getset_descriptor.__get__")))
    (xcc0 : PySem.W.takesIn K (.builtin "object.__class__") = some true)
    (xcd0 : PySem.W.mroIn K E0 (.type "object") = some true)
    (xn0_1 : PySem.W.subIn K (.ref E0) (.ref R1) = some false)
    (xq0_1 : (Value.ref E0 == Value.ref R1) = false)
    (xn0_2 : PySem.W.subIn K (.ref E0) (.ref R2) = some false)
    (xq0_2 : (Value.ref E0 == Value.ref R2) = false)
    (xm0_0 : PySem.W.subIn K (.ref E0) (.ref R0) = some true)
    (nl1 : PySem.W.findIn K (.ref C1) "__len__" = some none)
    (nh1 : PySem.W.findIn K (.ref C1) "__length_hint__" = some none)
    (nl2 : PySem.W.findIn K (.ref C2) "__len__" = some none)
    (nh2 : PySem.W.findIn K (.ref C2) "__length_hint__" = some none)
    : ∃ T : Top K mg W, T.a_law = f43 ∧ T.x_file = file ∧ ∀ (s : Shared) (v : Value), BindsTo s T.d_law ⟨[v], []⟩ [("_law_script", v)] := by
  have F0 := fun_mk (st := s_is_name) l0 c0 k0
  have F1 := fun_mk (st := s_is_number) l1 c1 k1
  have F2 := fun_mk (st := s_is_part) l2 c2 k2
  have F3 := fun_mk (st := s_check_form) l3 c3 k3
  have F4 := fun_mk (st := s_value_of) l4 c4 k4
  have F5 := fun_mk (st := s_names_of) l5 c5 k5
  have F6 := fun_mk (st := s_check_row) l6 c6 k6
  have F7 := fun_mk (st := s_idents_of) l7 c7 k7
  have F8 := fun_mk (st := s_at_most) l8 c8 k8
  have F9 := fun_mk (st := s_Key_init) l9 c9 k9
  have F10 := fun_mk (st := s_Key_parts) l10 c10 k10
  have F11 := fun_mk (st := s_Key_call) l11 c11 k11
  have F12 := fun_mk (st := s_Key_le) l12 c12 k12
  have F13 := fun_mk (st := s_Key_idents) l13 c13 k13
  have F14 := fun_mk (st := s_Known_init) l14 c14 k14
  have F15 := fun_mk (st := s_Known_iter) l15 c15 k15
  have F16 := fun_mk (st := s_Known_getitem) l16 c16 k16
  have F17 := fun_mk (st := s_Known_setitem) l17 c17 k17
  have F18 := fun_mk (st := s_Known_show) l18 c18 k18
  have F19 := fun_mk (st := s_Things_init) l19 c19 k19
  have F20 := fun_mk (st := s_Things_iter) l20 c20 k20
  have F21 := fun_mk (st := s_Things_getitem) l21 c21 k21
  have F22 := fun_mk (st := s_Things_setitem) l22 c22 k22
  have F23 := fun_mk (st := s_Things_show) l23 c23 k23
  have F24 := fun_mk (st := s_mixed) l24 c24 k24
  have F25 := fun_mk (st := s_bag) l25 c25 k25
  have F26 := fun_mk (st := s_pick) l26 c26 k26
  have F27 := fun_mk (st := s_choice) l27 c27 k27
  have F28 := fun_mk (st := s_mingled) l28 c28 k28
  have F29 := fun_mk (st := s_number) l29 c29 k29
  have F30 := fun_mk (st := s_form) l30 c30 k30
  have F31 := fun_mk (st := s_value) l31 c31 k31
  have F32 := fun_mk (st := s_idents) l32 c32 k32
  have F33 := fun_mk (st := s_row) l33 c33 k33
  have F34 := fun_mk (st := s_any_key) l34 c34 k34
  have F35 := fun_mk (st := s_changed) l35 c35 k35
  have F36 := fun_mk (st := s_rows_shown) l36 c36 k36
  have F37 := fun_mk (st := s_known_by) l37 c37 k37
  have F38 := fun_mk (st := s_shows) l38 c38 k38
  have F39 := fun_mk (st := s_agrees) l39 c39 k39
  have F40 := fun_mk (st := s_not_read) l40 c40 k40
  have F41 := fun_mk (st := s_not_set) l41 c41 k41
  have F42 := fun_mk (st := s_step) l42 c42 k42
  have F43 := fun_mk (st := s_law) l43 c43 k43
  exact ⟨⟨PySem.W.mg_none_of X G z0,
    PySem.W.mg_none_of X G z1,
    PySem.W.mg_none_of X G z2,
    PySem.W.mg_none_of X G z3,
    PySem.W.mg_none_of X G z4,
    PySem.W.mg_none_of X G z5,
    PySem.W.mg_none_of X G z6,
    PySem.W.mg_none_of X G z7,
    PySem.W.mg_none_of X G z8,
    PySem.W.mg_none_of X G z9,
    PySem.W.mg_none_of X G z10,
    PySem.W.mg_none_of X G z11,
    PySem.W.mg_none_of X G z12,
    (by obtain ⟨t, e⟩ := x0; exact ⟨t, e ▸ PySem.W.mg_of X G y0⟩),
    (by obtain ⟨t, e⟩ := x1; exact ⟨t, e ▸ PySem.W.mg_of X G y1⟩),
    (by obtain ⟨t, e⟩ := x2; exact ⟨t, e ▸ PySem.W.mg_of X G y2⟩),
    f0,
    _,
    F0,
    F0.binds (ps := ["thing"]) (fun _ _ _ _ _ _ us hl => match us, hl with | [_], _ => rfl),
    PySem.W.mg_of X G a0,
    f1,
    _,
    F1,
    F1.binds (ps := ["thing", "low", "high"]) (fun _ _ _ _ _ _ us hl => match us, hl with | [_, _, _], _ => rfl),
    PySem.W.mg_of X G a1,
    f2,
    _,
    F2,
    F2.binds (ps := ["part"]) (fun _ _ _ _ _ _ us hl => match us, hl with | [_], _ => rfl),
    PySem.W.mg_of X G a2,
    f3,
    _,
    F3,
    F3.binds (ps := ["parts"]) (fun _ _ _ _ _ _ us hl => match us, hl with | [_], _ => rfl),
    PySem.W.mg_of X G a3,
    f4,
    _,
    F4,
    F4.binds (ps := ["parts", "values"]) (fun _ _ _ _ _ _ us hl => match us, hl with | [_, _], _ => rfl),
    PySem.W.mg_of X G a4,
    f5,
    _,
    F5,
    F5.binds (ps := ["parts"]) (fun _ _ _ _ _ _ us hl => match us, hl with | [_], _ => rfl),
    PySem.W.mg_of X G a5,
    f6,
    _,
    F6,
    F6.binds (ps := ["row"]) (fun _ _ _ _ _ _ us hl => match us, hl with | [_], _ => rfl),
    PySem.W.mg_of X G a6,
    f7,
    _,
    F7,
    F7.binds (ps := ["parts", "row"]) (fun _ _ _ _ _ _ us hl => match us, hl with | [_, _], _ => rfl),
    PySem.W.mg_of X G a7,
    f8,
    _,
    F8,
    F8.binds (ps := ["first", "second"]) (fun _ _ _ _ _ _ us hl => match us, hl with | [_, _], _ => rfl),
    PySem.W.mg_of X G a8,
    f9,
    _,
    F9,
    F9.binds (ps := ["self", "form"]) (fun _ _ _ _ _ _ us hl => match us, hl with | [_, _], _ => rfl),
    f10,
    _,
    F10,
    F10.binds (ps := ["self"]) (fun _ _ _ _ _ _ us hl => match us, hl with | [_], _ => rfl),
    f11,
    _,
    F11,
    F11.binds (ps := ["self", "item", "at"]) (fun _ _ _ _ _ _ us hl => match us, hl with | [_, _, _], _ => rfl),
    f12,
    _,
    F12,
    F12.binds (ps := ["self", "other"]) (fun _ _ _ _ _ _ us hl => match us, hl with | [_, _], _ => rfl),
    f13,
    _,
    F13,
    F13.binds (ps := ["self", "row"]) (fun _ _ _ _ _ _ us hl => match us, hl with | [_, _], _ => rfl),
    f14,
    _,
    F14,
    F14.binds (ps := ["self", "key", "row"]) (fun _ _ _ _ _ _ us hl => match us, hl with | [_, _, _], _ => rfl),
    f15,
    _,
    F15,
    F15.binds (ps := ["self"]) (fun _ _ _ _ _ _ us hl => match us, hl with | [_], _ => rfl),
    f16,
    _,
    F16,
    F16.binds (ps := ["self", "item"]) (fun _ _ _ _ _ _ us hl => match us, hl with | [_, _], _ => rfl),
    f17,
    _,
    F17,
    F17.binds (ps := ["self", "item", "number"]) (fun _ _ _ _ _ _ us hl => match us, hl with | [_, _, _], _ => rfl),
    f18,
    _,
    F18,
    F18.binds (ps := ["self", "row"]) (fun _ _ _ _ _ _ us hl => match us, hl with | [_, _], _ => rfl),
    f19,
    _,
    F19,
    F19.binds (ps := ["self", "row"]) (fun _ _ _ _ _ _ us hl => match us, hl with | [_, _], _ => rfl),
    f20,
    _,
    F20,
    F20.binds (ps := ["self"]) (fun _ _ _ _ _ _ us hl => match us, hl with | [_], _ => rfl),
    f21,
    _,
    F21,
    F21.binds (ps := ["self", "item"]) (fun _ _ _ _ _ _ us hl => match us, hl with | [_, _], _ => rfl),
    f22,
    _,
    F22,
    F22.binds (ps := ["self", "item", "number"]) (fun _ _ _ _ _ _ us hl => match us, hl with | [_, _, _], _ => rfl),
    f23,
    _,
    F23,
    F23.binds (ps := ["self", "row"]) (fun _ _ _ _ _ _ us hl => match us, hl with | [_, _], _ => rfl),
    f24,
    _,
    F24,
    F24.binds (ps := ["_law_number_here", "_law_turn"]) (fun _ _ _ _ _ _ us hl => match us, hl with | [_, _], _ => rfl),
    PySem.W.mg_of X G a24,
    f25,
    _,
    F25,
    F25.binds (ps := ["_law_script"]) (fun _ _ _ _ _ _ us hl => match us, hl with | [_], _ => rfl),
    PySem.W.mg_of X G a25,
    f26,
    _,
    F26,
    F26.binds (ps := ["_law_bag_here", "_law_many"]) (fun _ _ _ _ _ _ us hl => match us, hl with | [_, _], _ => rfl),
    PySem.W.mg_of X G a26,
    f27,
    _,
    F27,
    F27.binds (ps := ["_law_bag_here", "_law_things"]) (fun _ _ _ _ _ _ us hl => match us, hl with | [_, _], _ => rfl),
    PySem.W.mg_of X G a27,
    f28,
    _,
    F28,
    F28.binds (ps := ["_law_bag_here", "_law_things"]) (fun _ _ _ _ _ _ us hl => match us, hl with | [_, _], _ => rfl),
    PySem.W.mg_of X G a28,
    f29,
    _,
    F29,
    F29.binds (ps := ["_law_thing"]) (fun _ _ _ _ _ _ us hl => match us, hl with | [_], _ => rfl),
    PySem.W.mg_of X G a29,
    f30,
    _,
    F30,
    F30.binds (ps := ["_law_bag_here", "_law_readable", "_law_levels"]) (fun _ _ _ _ _ _ us hl => match us, hl with | [_, _, _], _ => rfl),
    PySem.W.mg_of X G a30,
    f31,
    _,
    F31,
    F31.binds (ps := ["_law_form_here", "_law_worths"]) (fun _ _ _ _ _ _ us hl => match us, hl with | [_, _], _ => rfl),
    PySem.W.mg_of X G a31,
    f32,
    _,
    F32,
    F32.binds (ps := ["_law_key", "_law_row_here"]) (fun _ _ _ _ _ _ us hl => match us, hl with | [_, _], _ => rfl),
    PySem.W.mg_of X G a32,
    f33,
    _,
    F33,
    F33.binds (ps := ["_law_bag_here", "_law_most"]) (fun _ _ _ _ _ _ us hl => match us, hl with | [_, _], _ => rfl),
    PySem.W.mg_of X G a33,
    f34,
    _,
    F34,
    F34.binds (ps := ["_law_bag_here"]) (fun _ _ _ _ _ _ us hl => match us, hl with | [_], _ => rfl),
    PySem.W.mg_of X G a34,
    f35,
    _,
    F35,
    F35.binds (ps := ["_law_bag_here", "_law_row_here"]) (fun _ _ _ _ _ _ us hl => match us, hl with | [_, _], _ => rfl),
    PySem.W.mg_of X G a35,
    f36,
    _,
    F36,
    F36.binds (ps := ["_law_bag_here"]) (fun _ _ _ _ _ _ us hl => match us, hl with | [_], _ => rfl),
    PySem.W.mg_of X G a36,
    f37,
    _,
    F37,
    F37.binds (ps := ["_law_form_here", "_law_row_here"]) (fun _ _ _ _ _ _ us hl => match us, hl with | [_, _], _ => rfl),
    PySem.W.mg_of X G a37,
    f38,
    _,
    F38,
    F38.binds (ps := ["_law_model", "_law_row_here"]) (fun _ _ _ _ _ _ us hl => match us, hl with | [_, _], _ => rfl),
    PySem.W.mg_of X G a38,
    f39,
    _,
    F39,
    F39.binds (ps := ["_law_box", "_law_model"]) (fun _ _ _ _ _ _ us hl => match us, hl with | [_, _], _ => rfl),
    PySem.W.mg_of X G a39,
    f40,
    _,
    F40,
    F40.binds (ps := ["_law_box", "_law_item"]) (fun _ _ _ _ _ _ us hl => match us, hl with | [_, _], _ => rfl),
    PySem.W.mg_of X G a40,
    f41,
    _,
    F41,
    F41.binds (ps := ["_law_box", "_law_item"]) (fun _ _ _ _ _ _ us hl => match us, hl with | [_, _], _ => rfl),
    PySem.W.mg_of X G a41,
    f42,
    _,
    F42,
    F42.binds (ps := ["_law_bag_here", "_law_box", "_law_model", "_law_rows"]) (fun _ _ _ _ _ _ us hl => match us, hl with | [_, _, _, _], _ => rfl),
    PySem.W.mg_of X G a42,
    f43,
    _,
    F43,
    F43.binds (ps := ["_law_script"]) (fun _ _ _ _ _ _ us hl => match us, hl with | [_], _ => rfl),
    PySem.W.mg_of X G a43,
    D0,
    de0,
    dn0,
    PySem.W.mg_of X G da0,
    dl0,
    dk0,
    dw0,
    ⟨_, dv0_0⟩,
    ⟨_, dv0_1⟩,
    ⟨_, dv0_2⟩,
    ⟨_, dv0_3⟩,
    ⟨_, dv0_4⟩,
    C0,
    PySem.W.mg_of X G ca0,
    ⟨cg0, ch0, co0, cs0⟩,
    cf0_0,
    ⟨cm0, a9, i9, ck0⟩,
    ⟨a11, i11, fi11⟩,
    ⟨a12, i12⟩,
    ⟨a13, i13, k13⟩,
    p10,
    ⟨a10, pg10, pt10, ⟨_, pc10⟩⟩,
    ⟨ct0_a, ct0_b, ct0_c, ct0_d, if_pos (beq_self_eq_true _)⟩,
    C1,
    PySem.W.mg_of X G ca1,
    ⟨cg1, ch1, co1, cs1⟩,
    cf1_0,
    cf1_1,
    cf1_2,
    cf1_3,
    ⟨cm1, a14, i14, ck1⟩,
    ⟨a15, i15⟩,
    ⟨a16, i16, fi16⟩,
    ⟨a17, i17, nq17⟩,
    ⟨a18, i18, k18⟩,
    C2,
    PySem.W.mg_of X G ca2,
    ⟨cg2, ch2, co2, cs2⟩,
    cf2_0,
    cf2_1,
    ⟨cm2, a19, i19, ck2⟩,
    ⟨a20, i20⟩,
    ⟨a21, i21, fi21⟩,
    ⟨a22, i22, nq22⟩,
    ⟨a23, i23, k23⟩,
    file,
    R0,
    PySem.W.mg_of X G ra0,
    R1,
    PySem.W.mg_of X G ra1,
    R2,
    PySem.W.mg_of X G ra2,
    E0,
    J0,
    PySem.W.mg_of X G xa0,
    fun P pf => { gC := PySem.W.mg_of X G xa0, cls := ⟨_, _, _, _, _, _, _, _, _, _, _, _, _, _, _, xL0, xr0⟩, sa := xs0, ga := xg0, gg := xh0, noN := xf0, iC := xi0, tC := xt0, kC := xk0, exC := xb0, tyC := xy0, hdC := xj0, fn := ⟨_, _, _, _, _, _, _, _, _, _, _, ⟨21, 17, 21, 21⟩, ⟨21, 23, 21, 27⟩, ⟨⟨22, 8, 22, 13⟩, ⟨22, 8, 22, 15⟩, ⟨22, 8, 22, 24⟩, ⟨22, 27, 22, 41⟩, ⟨22, 42, 22, 46⟩, ⟨22, 41, 22, 49⟩, ⟨22, 25, 22, 50⟩, ⟨22, 8, 22, 51⟩, ⟨22, 8, 22, 51⟩, ⟨23, 8, 23, 12⟩, ⟨23, 8, 23, 17⟩, ⟨23, 20, 23, 24⟩, ⟨23, 8, 23, 24⟩⟩, _, _, _, _, _, _, _, _, _, xl0, xd0, xe0, xv0, pf.1, xc0, ⟨_, fun _ => rfl⟩, fun _ _ => rfl⟩, sup := xp0, subV := xw0, mroS := xz0, opq := xo0, htop := pf.2, hsup := PySem.W.mg_none_of X G xu0, f1 := by decide, f2 := by decide, f3 := by decide, f4 := by decide, ml := by decide +kernel },
    ⟨xg0, xh0, xb0, xj0, xca0, xcb0, xcc0, xcd0⟩,
    ⟨xg0, xh0, xb0, xj0⟩,
    kit_of xq0_1 rb1 rc1 xn0_1,
    kit_of xq0_2 rb2 rc2 xn0_2,
    exm_of rd0 rb0 rc0 xm0_0,
    nl1,
    nh1,
    nl2,
    nh2⟩, rfl, rfl, fun s v => .of_eq rfl⟩
end K26
open PySem PySem.W PyProof.Rows
set_option maxHeartbeats 0 in
theorem PySem.Challenge.cw_drawnanew_k26_known_numbers_holds : PySem.Challenge.rw_drawnanew_k26_known_numbers.Holds := by
  w_on; o_law; k_head; (case hw => w_witness2)
  k_fill
  refine L2.walk_of (l := PySem.Challenge.rw_drawnanew_k26_known_numbers) (n := 63) (k := 13) (x := "_law_script") (CX := fun _ => L2.CX0) (sp := fun w => K26.spLaw _) rfl (by decide) rfl ⟨rfl, by decide, by decide⟩ (fun w h Y => PySem.W.kIn_of Y) ?F (fun _ _ a ns hl _ hS => ⟨a, ns, rfl, hS, hl, fun _ => rfl⟩) (fun _ _ _ _ _ h => h)
  case F =>
    intro w mg fa h KX G hmg
    refine' K26.law_end KX G hmg (K26.top_mk (W := w) KX G ?ca0 ?ca1 ?ca2 ?a0 ?l0 ?c0 ?k0 ?a1 ?l1 ?c1 ?k1 ?a2 ?l2 ?c2 ?k2 ?a3 ?l3 ?c3 ?k3 ?a4 ?l4 ?c4 ?k4 ?a5 ?l5 ?c5 ?k5 ?a6 ?l6 ?c6 ?k6 ?a7 ?l7 ?c7 ?k7 ?a8 ?l8 ?c8 ?k8 ?a9 ?i9 ?l9 ?c9 ?k9 ?a10 ?pg10 ?pt10 ?pc10 ?l10 ?c10 ?k10 ?a11 ?i11 ?fi11 ?l11 ?c11 ?k11 ?a12 ?i12 ?l12 ?c12 ?k12 ?a13 ?i13 ?l13 ?c13 ?k13 ?a14 ?i14 ?l14 ?c14 ?k14 ?a15 ?i15 ?l15 ?c15 ?k15 ?a16 ?i16 ?fi16 ?l16 ?c16 ?k16 ?a17 ?i17 ?nq17 ?l17 ?c17 ?k17 ?a18 ?i18 ?l18 ?c18 ?k18 ?a19 ?i19 ?l19 ?c19 ?k19 ?a20 ?i20 ?l20 ?c20 ?k20 ?a21 ?i21 ?fi21 ?l21 ?c21 ?k21 ?a22 ?i22 ?nq22 ?l22 ?c22 ?k22 ?a23 ?i23 ?l23 ?c23 ?k23 ?a24 ?l24 ?c24 ?k24 ?a25 ?l25 ?c25 ?k25 ?a26 ?l26 ?c26 ?k26 ?a27 ?l27 ?c27 ?k27 ?a28 ?l28 ?c28 ?k28 ?a29 ?l29 ?c29 ?k29 ?a30 ?l30 ?c30 ?k30 ?a31 ?l31 ?c31 ?k31 ?a32 ?l32 ?c32 ?k32 ?a33 ?l33 ?c33 ?k33 ?a34 ?l34 ?c34 ?k34 ?a35 ?l35 ?c35 ?k35 ?a36 ?l36 ?c36 ?k36 ?a37 ?l37 ?c37 ?k37 ?a38 ?l38 ?c38 ?k38 ?a39 ?l39 ?c39 ?k39 ?a40 ?l40 ?c40 ?k40 ?a41 ?l41 ?c41 ?k41 ?a42 ?l42 ?c42 ?k42 ?a43 ?l43 ?c43 ?k43 ?z0 ?z1 ?z2 ?z3 ?z4 ?z5 ?z6 ?z7 ?z8 ?z9 ?z10 ?z11 ?z12 ?y0 ?x0 ?y1 ?x1 ?y2 ?x2 ?da0 ?dl0 ?dk0 ?dw0 ?dv0_0 ?dv0_1 ?dv0_2 ?dv0_3 ?dv0_4 ?cg0 ?ch0 ?co0 ?cs0 ?cf0_0 ?cm0 ?ck0 ?ct0_a ?ct0_b ?ct0_c ?ct0_d ?cg1 ?ch1 ?co1 ?cs1 ?cf1_0 ?cf1_1 ?cf1_2 ?cf1_3 ?cm1 ?ck1 ?cg2 ?ch2 ?co2 ?cs2 ?cf2_0 ?cf2_1 ?cm2 ?ck2 ?ra0 ?rb0 ?rc0 ?rd0 ?ra1 ?rb1 ?rc1 ?ra2 ?rb2 ?rc2 ?xa0 ?xL0 ?xr0 ?xs0 ?xg0 ?xh0 ?xf0 ?xi0 ?xt0 ?xl0 ?xd0 ?xe0 ?xv0 ?xc0 ?xk0 ?xb0 ?xy0 ?xj0 ?xp0 ?xw0 ?xz0 ?xo0 ?xu0 ?xca0 ?xcb0 ?xcc0 ?xcd0 ?xn0_1 ?xq0_1 ?xn0_2 ?xq0_2 ?xm0_0 ?nl1 ?nh1 ?nl2 ?nh2) ?pf
    (case ca0 => k_is)
    (case ca1 => k_is)
    (case ca2 => k_is)
    (case a0 => k_is)
    (case l0 => k_is)
    (case c0 => k_is)
    (case k0 => k_is)
    (case a1 => k_is)
    (case l1 => k_is)
    (case c1 => k_is)
    (case k1 => k_is)
    (case a2 => k_is)
    (case l2 => k_is)
    (case c2 => k_is)
    (case k2 => k_is)
    (case a3 => k_is)
    (case l3 => k_is)
    (case c3 => k_is)
    (case k3 => k_is)
    (case a4 => k_is)
    (case l4 => k_is)
    (case c4 => k_is)
    (case k4 => k_is)
    (case a5 => k_is)
    (case l5 => k_is)
    (case c5 => k_is)
    (case k5 => k_is)
    (case a6 => k_is)
    (case l6 => k_is)
    (case c6 => k_is)
    (case k6 => k_is)
    (case a7 => k_is)
    (case l7 => k_is)
    (case c7 => k_is)
    (case k7 => k_is)
    (case a8 => k_is)
    (case l8 => k_is)
    (case c8 => k_is)
    (case k8 => k_is)
    (case a9 => k_is)
    (case i9 => k_is)
    (case l9 => k_is)
    (case c9 => k_is)
    (case k9 => k_is)
    (case a10 => k_is)
    (case pg10 => k_is)
    (case pt10 => k_is)
    (case pc10 => k_is)
    (case l10 => k_is)
    (case c10 => k_is)
    (case k10 => k_is)
    (case a11 => k_is)
    (case i11 => k_is)
    (case fi11 => k_is)
    (case l11 => k_is)
    (case c11 => k_is)
    (case k11 => k_is)
    (case a12 => k_is)
    (case i12 => k_is)
    (case l12 => k_is)
    (case c12 => k_is)
    (case k12 => k_is)
    (case a13 => k_is)
    (case i13 => k_is)
    (case l13 => k_is)
    (case c13 => k_is)
    (case k13 => k_is)
    (case a14 => k_is)
    (case i14 => k_is)
    (case l14 => k_is)
    (case c14 => k_is)
    (case k14 => k_is)
    (case a15 => k_is)
    (case i15 => k_is)
    (case l15 => k_is)
    (case c15 => k_is)
    (case k15 => k_is)
    (case a16 => k_is)
    (case i16 => k_is)
    (case fi16 => k_is)
    (case l16 => k_is)
    (case c16 => k_is)
    (case k16 => k_is)
    (case a17 => k_is)
    (case i17 => k_is)
    (case nq17 => k_is)
    (case l17 => k_is)
    (case c17 => k_is)
    (case k17 => k_is)
    (case a18 => k_is)
    (case i18 => k_is)
    (case l18 => k_is)
    (case c18 => k_is)
    (case k18 => k_is)
    (case a19 => k_is)
    (case i19 => k_is)
    (case l19 => k_is)
    (case c19 => k_is)
    (case k19 => k_is)
    (case a20 => k_is)
    (case i20 => k_is)
    (case l20 => k_is)
    (case c20 => k_is)
    (case k20 => k_is)
    (case a21 => k_is)
    (case i21 => k_is)
    (case fi21 => k_is)
    (case l21 => k_is)
    (case c21 => k_is)
    (case k21 => k_is)
    (case a22 => k_is)
    (case i22 => k_is)
    (case nq22 => k_is)
    (case l22 => k_is)
    (case c22 => k_is)
    (case k22 => k_is)
    (case a23 => k_is)
    (case i23 => k_is)
    (case l23 => k_is)
    (case c23 => k_is)
    (case k23 => k_is)
    (case a24 => k_is)
    (case l24 => k_is)
    (case c24 => k_is)
    (case k24 => k_is)
    (case a25 => k_is)
    (case l25 => k_is)
    (case c25 => k_is)
    (case k25 => k_is)
    (case a26 => k_is)
    (case l26 => k_is)
    (case c26 => k_is)
    (case k26 => k_is)
    (case a27 => k_is)
    (case l27 => k_is)
    (case c27 => k_is)
    (case k27 => k_is)
    (case a28 => k_is)
    (case l28 => k_is)
    (case c28 => k_is)
    (case k28 => k_is)
    (case a29 => k_is)
    (case l29 => k_is)
    (case c29 => k_is)
    (case k29 => k_is)
    (case a30 => k_is)
    (case l30 => k_is)
    (case c30 => k_is)
    (case k30 => k_is)
    (case a31 => k_is)
    (case l31 => k_is)
    (case c31 => k_is)
    (case k31 => k_is)
    (case a32 => k_is)
    (case l32 => k_is)
    (case c32 => k_is)
    (case k32 => k_is)
    (case a33 => k_is)
    (case l33 => k_is)
    (case c33 => k_is)
    (case k33 => k_is)
    (case a34 => k_is)
    (case l34 => k_is)
    (case c34 => k_is)
    (case k34 => k_is)
    (case a35 => k_is)
    (case l35 => k_is)
    (case c35 => k_is)
    (case k35 => k_is)
    (case a36 => k_is)
    (case l36 => k_is)
    (case c36 => k_is)
    (case k36 => k_is)
    (case a37 => k_is)
    (case l37 => k_is)
    (case c37 => k_is)
    (case k37 => k_is)
    (case a38 => k_is)
    (case l38 => k_is)
    (case c38 => k_is)
    (case k38 => k_is)
    (case a39 => k_is)
    (case l39 => k_is)
    (case c39 => k_is)
    (case k39 => k_is)
    (case a40 => k_is)
    (case l40 => k_is)
    (case c40 => k_is)
    (case k40 => k_is)
    (case a41 => k_is)
    (case l41 => k_is)
    (case c41 => k_is)
    (case k41 => k_is)
    (case a42 => k_is)
    (case l42 => k_is)
    (case c42 => k_is)
    (case k42 => k_is)
    (case a43 => k_is)
    (case l43 => k_is)
    (case c43 => k_is)
    (case k43 => k_is)
    (case z0 => k_is)
    (case z1 => k_is)
    (case z2 => k_is)
    (case z3 => k_is)
    (case z4 => k_is)
    (case z5 => k_is)
    (case z6 => k_is)
    (case z7 => k_is)
    (case z8 => k_is)
    (case z9 => k_is)
    (case z10 => k_is)
    (case z11 => k_is)
    (case z12 => k_is)
    (case y0 => k_is)
    (case x0 => exact ⟨_, rfl⟩)
    (case y1 => k_is)
    (case x1 => exact ⟨_, rfl⟩)
    (case y2 => k_is)
    (case x2 => exact ⟨_, rfl⟩)
    (case da0 => k_is)
    (case dl0 => k_is)
    (case dk0 => k_keys)
    (case dw0 => rfl)
    (case dv0_0 => k_is)
    (case dv0_1 => k_is)
    (case dv0_2 => k_is)
    (case dv0_3 => k_is)
    (case dv0_4 => k_is)
    (case cg0 => k_is)
    (case ch0 => k_is)
    (case co0 => k_is)
    (case cs0 => k_is)
    (case cf0_0 => k_is)
    (case cm0 => k_is)
    (case ck0 => k_is)
    (case ct0_a => k_is)
    (case ct0_b => k_is)
    (case ct0_c => k_is)
    (case ct0_d => k_is)
    (case cg1 => k_is)
    (case ch1 => k_is)
    (case co1 => k_is)
    (case cs1 => k_is)
    (case cf1_0 => k_is)
    (case cf1_1 => k_is)
    (case cf1_2 => k_is)
    (case cf1_3 => k_is)
    (case cm1 => k_is)
    (case ck1 => k_is)
    (case cg2 => k_is)
    (case ch2 => k_is)
    (case co2 => k_is)
    (case cs2 => k_is)
    (case cf2_0 => k_is)
    (case cf2_1 => k_is)
    (case cm2 => k_is)
    (case ck2 => k_is)
    (case ra0 => k_is)
    (case rb0 => k_is)
    (case rc0 => k_is)
    (case rd0 => k_is)
    (case ra1 => k_is)
    (case rb1 => k_is)
    (case rc1 => k_is)
    (case ra2 => k_is)
    (case rb2 => k_is)
    (case rc2 => k_is)
    (case xa0 => k_is)
    (case xL0 => k_is)
    (case xr0 => first | rfl | decide +kernel)
    (case xs0 => k_is)
    (case xg0 => k_is)
    (case xh0 => k_is)
    (case xf0 => k_is)
    (case xi0 => k_is)
    (case xt0 => k_is)
    (case xl0 => k_is)
    (case xd0 => k_is)
    (case xe0 => k_is)
    (case xv0 => rfl)
    (case xc0 => k_is)
    (case xk0 => k_is)
    (case xb0 => k_is)
    (case xy0 => k_is)
    (case xj0 => k_is)
    (case xp0 => ks_is)
    (case xw0 => k_is)
    (case xz0 => k_is)
    (case xo0 => k_is)
    (case xu0 => k_is)
    (case xca0 => k_is)
    (case xcb0 => k_is)
    (case xcc0 => k_is)
    (case xcd0 => k_is)
    (case xn0_1 => k_is)
    (case xq0_1 => rfl)
    (case xn0_2 => k_is)
    (case xq0_2 => rfl)
    (case xm0_0 => k_is)
    (case nl1 => k_is)
    (case nh1 => k_is)
    (case nl2 => k_is)
    (case nh2 => k_is)
    (case pf => exact ⟨by first | rfl | decide +kernel, by first | rfl | decide +kernel⟩)
